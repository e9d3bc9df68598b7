import PyProof.Rows.All
import Wide.All
import OpenK.AllK
import Wide.FinOn
import HandS.ForMost
import HandS.ForExc
import HandS.Flow
import HandS.Wide
import HandS.WideBits
import HandS.IsInst
import HandS.ExcInit
import HandS.ExcField
import HandS.ExcIs
import HandS.TryMany
import HandS.SetKeys
import HandS.Conv
import HandS.WordsDict
import HandS.Style
import HandS.HeadHook2
import PySem.Challenge.RW_wornpages_k08_whole_chip
set_option Elab.async false
set_option linter.all false
set_option maxRecDepth 100000
set_option maxHeartbeats 4000000
/-! Kit: unified operators, method calls by the receiver's class, and step lemmas for readings. -/
namespace Kit
open PySem PySem.Spec PyProof.Rows L2

section
variable {X : Cx}
/-! ### unified operators -/
abbrev rStrAdd : R2 := fun x y H Q => ∃ i j, x = .str i ∧ y = .str j ∧ i.length + j.length ≤ sizeLine ∧ Q (.str (i ++ j)) H
def uAdd (K : PySem.W.Frag) : R2 := fun x y H Q => rI0 (fun i j => .int (i + j)) x y H Q ∨ (rStrAdd x y H Q ∨ (rCat x y H Q ∨ rCatT K x y H Q))
theorem op_uAdd : OpR X (binaryOp .Add) (uAdd X.K) := op_add.or (op_add_str.or (op_cat.or op_catT))
def uMul : R2 := fun x y H Q => rI CMul (fun i j => .int (i * j)) x y H Q ∨ (rRep x y H Q ∨ rI CMulW (fun i j => .int (i * j)) x y H Q)
theorem op_uMul : OpR X (binaryOp .Mult) uMul := op_mul.or (op_rep.or op_mulW)
def uShl : R2 := rI CShl fun i j => .int (i * 2 ^ j.toNat)
theorem op_uShl : OpR X (binaryOp .LShift) uShl := op_shlW
def uEq (K : PySem.W.Frag) : R2 := fun x y H Q => rEq x y H Q ∨ rEqD K x y H Q
theorem op_uEq (hu : X.A.units + 64 < cLine) : OpR X (compareOp .Eq) (uEq X.K) := op_eq.or (op_eqD hu)
def uNe (K : PySem.W.Frag) : R2 := fun x y H Q => rNe x y H Q ∨ rNeD K x y H Q
theorem op_uNe (hu : X.A.units + 64 < cLine) : OpR X (compareOp .NotEq) (uNe X.K) := op_ne.or (op_neD hu)
abbrev rLtI : R2 := rI0 fun i j => .bl (decide (i < j))
def uLt : R2 := rLtI
theorem op_uLt : OpR X (compareOp .Lt) uLt := op_lt
def uIn (K : PySem.W.Frag) : R2 := rIn K false
theorem op_uIn : OpR X (compareOp .In) (uIn X.K) := op_in_seq
def uNotIn (K : PySem.W.Frag) : R2 := rIn K true
theorem op_uNotIn : OpR X (compareOp .NotIn) (uNotIn X.K) := op_notIn_seq
abbrev rIsNon : R2 := fun x y H Q => y = .non ∧ Q (.bl (decide (x = .non))) H
abbrev rIsNotNon : R2 := fun x y H Q => y = .non ∧ Q (.bl (!decide (x = .non))) H

def uIs : R2 := fun x y H Q => rIsNon x y H Q ∨ rIsB x y H Q
theorem op_uIs : OpR X (compareOp .Is) uIs := op_isN.or op_isBl
def uIsNot : R2 := fun x y H Q => rIsNotNon x y H Q ∨ rNotB x y H Q
theorem op_uIsNot : OpR X (compareOp .IsNot) uIsNot := op_notN.or op_notBl

/-! ### calls -/
theorem passL2 : ∀ σ, PassesAt (L2.CX X.prog X.w) X σ ((fun _ => E0) σ) := fun _ _ _ _ _ _ _ h => by
  obtain ⟨_, _, _, _, _, _, _, _, _, _, _, _, z⟩ := h
  exact z.elim
/-- a method of a class, by what it promises -/
structure MO (P : Program) (w : World) (K : PySem.W.Frag) (mg : Str → Option Value) (base : Heap) (CX : CXT) (n : Nat) (C : Addr) (m : Str) (sp : Sp) : Prop where
  ex : ∃ f fd ps, Cls K C ∧ Meth K C m f ∧ FnOk P w K mg base CX n f fd ps sp ∧ Binds K fd ps []
variable {CX : CXT} {k : Nat} {f C : Addr} {fd : FuncData} {ps : List Str} {sp : Sp} {dvs : List V} {ds : List Value} {E : L2.St → XK} {x m : Str} {p pos apos : Pos} {e o : Expr} {es : List Expr} {ta : TE} {t : TA}
/-- o.m(..), by the class that o has -/
def mtK (P : Program) (w : World) (K : PySem.W.Frag) (mg : Str → Option Value) (base : Heap) (CX : CXT) (n : Nat) (m : Str) (E : XK) (σ : L2.St) (t : TA) (Q : VK) : V → Hp → Prop := fun x H1 => ∃ a C dx fs sp, x = .ref a ∧ H1 a = some (.ins C dx fs) ∧ fs.lookup m = none ∧
  MO P w K mg base CX n C m sp ∧ t σ H1 fun vs H2 => sp (x :: vs) H2 Q E
def tMethD (P : Program) (w : World) (K : PySem.W.Frag) (mg : Str → Option Value) (base : Heap) (CX : CXT) (n : Nat) (m : Str) (E : L2.St → XK) (ta : TE) (t : TA) : TE := fun σ H Q => ta σ H (mtK P w K mg base CX n m (E σ) σ t Q)
theorem pe_methD {pl : Sem Bool} (he : PE X o ta) (hr : Room k X.A) (hx : ∀ σ, PassesAt CX X σ (E σ)) (ha : PA X (e :: es) t)
    (hst : starEach (e :: es) X.env = (false, eval e X.env) :: starEach es X.env := by rfl) (hpl : (backTo pos (starEach es X.env)).any (·.1) = false := by rfl)
    (ht : eval (.Call (.Attribute o m apos) (e :: es) [] pos) X.env = (do
      let ov ← eval o X.env
      standAt apos.atName
      let (f, first) ← holding [ov] (getMethod ov m pl)
      callWith pos f first (backTo pos (starEach (e :: es) X.env)) (backToKw pos (keywordEach [] X.env))) := by rfl) :
    PE X (.Call (.Attribute o m apos) (e :: es) [] pos) (tMethD X.prog X.w X.K X.mg X.base CX k m E ta t) := by
  refine ⟨fun pins s σ H Q I h => ?_⟩
  refine PySem.W.methodCall_KW (pl := pl) (thn (he.run pins s σ H _ I h) fun u s1 ⟨x, H1, I1, rx, a, C, dx, fs, sp, ex, ea, l, mo, q⟩ => ?_) ht
  subst ex
  obtain rfl : u = Value.ref a := rx
  obtain ⟨f, fd, ps, c, hm, F, hb⟩ := mo.ex
  refine getmeth_ok I1 ea c hm l ?_
  refine PySem.W.callWith_K (first := [.ref a]) (h₀ := X.base) I.ok.mod.kin hm.kp (thn (ha.run pos pins s1 σ H1 _ I1 q) fun us s2 ⟨vs, H2, I2, r, q2⟩ => ⟨I2.kIn, ?_⟩) hst hpl
  exact run_fnS (us := .ref a :: us) (vs := .ref a :: vs) F hr hb (hx σ) I2 (.cons rfl r) q2
theorem pe_methD0 {pl : Sem Bool} (he : PE X o ta) (hr : Room k X.A) (hx : ∀ σ, PassesAt CX X σ (E σ))
    (ht : eval (.Call (.Attribute o m apos) [] [] pos) X.env = (do
      let ov ← eval o X.env
      standAt apos.atName
      let (f, first) ← holding [ov] (getMethod ov m pl)
      callWith pos f first (backTo pos (starEach [] X.env)) (backToKw pos (keywordEach [] X.env))) := by rfl) :
    PE X (.Call (.Attribute o m apos) [] [] pos) (tMethD X.prog X.w X.K X.mg X.base CX k m E ta tNil) := by
  refine ⟨fun pins s σ H Q I h => ?_⟩
  refine PySem.W.methodCall_KW (pl := pl) (thn (he.run pins s σ H _ I h) fun u s1 ⟨x, H1, I1, rx, a, C, dx, fs, sp, ex, ea, l, mo, q⟩ => ?_) ht
  subst ex
  obtain rfl : u = Value.ref a := rx
  obtain ⟨f, fd, ps, c, hm, F, hb⟩ := mo.ex
  refine getmeth_ok I1 ea c hm l ?_
  exact PySem.W.callWith_K0 (first := [.ref a]) I1.kIn hm.kp (run_fnS (us := [.ref a]) (vs := [.ref a]) F hr hb (hx σ) I1 (.cons rfl .nil) q)
theorem pe_callS0 (F : FnOk X.prog X.w X.K X.mg X.base CX k f fd ps sp) (hr : Room k X.A) (hg : Gl X x) (hm : X.mg x = some (.ref f)) (hk : PySem.W.keepIn X.K (.ref f) = true) (hb : Binds X.K fd ps []) (hx : ∀ σ, PassesAt CX X σ (E σ))
    (hdb : (x == ("__debug__" : Str)) = false := by decide) : PE X (.Call (.Name x p) [] [] pos) (tCallS sp E tNil) := by
  refine ⟨fun pins s σ H Q I h => ?_⟩
  refine wpAny_Call_Name_kw (ld_glob I hg hm ?_ hdb)
  exact PySem.W.callWith_K0 I.kIn hk (run_fnS (us := []) F hr hb (hx σ) I .nil h)
/-- C(..), what is raised at the slots -/
def tMakeS (C : Addr) (sp : Sp) (dvs : List V) (E : L2.St → XK) (t : TA) : TE := fun σ H Q => t σ H fun vs H1 => ∀ x dx, H1 x = none → H1 dx = none → dx ≠ x →
  sp (.ref x :: (vs ++ dvs)) (upd (upd H1 dx (.own x)) x (.ins C dx [])) (fun v H2 => v = .non ∧ Q (.ref x) H2) (E σ)
end

section
variable {X : Cx} {CX : CXT} {k : Nat} {f C : Addr} {fd : FuncData} {ps : List Str} {sp : Sp} {dvs : List V} {ds : List Value} {E : L2.St → XK} {x : Str} {p pos : Pos} {e : Expr} {es : List Expr} {t : TA}
/-- a class without an own __init__ -/
structure Mk0 (K : PySem.W.Frag) (C : Addr) : Prop where
  makes : PySem.W.makesIn K C = true
  init : PySem.W.findIn K (.ref C) "__init__" = some (some (.builtin "object.__init__"))
  kp : PySem.W.keepIn K (.ref C) = true
theorem run_make0 {pins : List (Addr × Obj)} {σ : L2.St} {H : Hp} {s : Shared} {Q : VK} (M : Mk0 X.K C) (I : Inv X pins σ H s)
    (h : ∀ x dx, H x = none → H dx = none → dx ≠ x → Q (.ref x) (upd (upd H dx (.own x)) x (.ins C dx []))) : wpAny (model X.prog X.w) X.A (call (.ref C) []) (EP X pins σ Q) X.xe s := by
  have hq := h (s.heap.objs.size + 1) s.heap.objs.size (I.hok.fresh (Nat.le_succ _)) (I.hok.fresh (Nat.le_refl _)) (Nat.ne_of_lt (Nat.lt_succ_self _))
  have I2 := Inv.made (C := C) I
  have KX := I.kIn
  have Y := PySem.W.makes_of (M := model X.prog X.w) KX M.makes
  obtain ⟨hh, g, d, t, os⟩ := s
  refine wpAny_call (PySem.W.make_core Y (PySem.W.looks_findIn KX M.init) (fun self => PySem.W.Looks.of_pure (PySem.W.oi_bind self)) (.inr ⟨rfl, rfl⟩) ?_)
  have e1 : ((hh.push PySem.W.emptyDict).push (PySem.W.instObj C hh.objs.size)).get? (hh.objs.size + 1) = some (PySem.W.instObj C hh.objs.size) := by heap_get
  have t1 : PySem.W.Looks (model X.prog X.w) ((hh.push PySem.W.emptyDict).push (PySem.W.instObj C hh.objs.size)) (typeOf (.ref (hh.objs.size + 1))) (.ref C) := (PySem.W.Looks.ld e1).andThen .now
  have t2 : PySem.W.Looks (model X.prog X.w) ((hh.push PySem.W.emptyDict).push (PySem.W.instObj C hh.objs.size)) (isInstance (.ref (hh.objs.size + 1)) (.type "object")) true :=
    t1.andThen (Y.top.keeps fun b o e => Heap.get?_push_of_some _ (Heap.get?_push_of_some _ e))
  refine codeAny_call_builtin PySem.W.oi_plain PySem.W.entry_oi (@PySem.W.check_slot (model X.prog X.w) _ _ _ "object.__init__" "object" "__init__" (.ref (hh.objs.size + 1)) [] [] _ PySem.W.oi_kind PySem.W.oi_split t2 (PySem.W.oi_args (.ref (hh.objs.size + 1))) ?_)
  rw [PySem.W.oi_run]
  exact wpAny_pure (And.intro rfl ⟨V.ref (hh.objs.size + 1), _, I2, rfl, hq⟩)
def tMake0 (C : Addr) : TE := fun _ H Q => ∀ x dx, H x = none → H dx = none → dx ≠ x → Q (.ref x) (upd (upd H dx (.own x)) x (.ins C dx []))
theorem pe_mkN (M : Mk0 X.K C) (hg : Gl X x) (hm : X.mg x = some (.ref C)) (hdb : (x == ("__debug__" : Str)) = false := by decide) : PE X (.Call (.Name x p) [] [] pos) (tMake0 C) := by
  refine ⟨fun pins s σ H Q I h => ?_⟩
  refine wpAny_Call_Name_kw (ld_glob I hg hm ?_ hdb)
  exact PySem.W.callWith_K0 I.kIn M.kp (run_make0 M I h)
theorem run_makeS {pins : List (Addr × Obj)} {σ : L2.St} {H : Hp} {s : Shared} {Q : VK} {us : List Value} {vs : List V} (M : Mk X.K C f) (F : FnOk X.prog X.w X.K X.mg X.base CX k f fd ps sp) (hr : Room (k + 1) X.A) (hb : Binds X.K fd ps ds) (hd : Vals dvs ds)
    (hx : ∀ σ, PassesAt CX X σ (E σ)) (I : Inv X pins σ H s) (r : Vals vs us)
    (h : ∀ x dx, H x = none → H dx = none → dx ≠ x → sp (.ref x :: (vs ++ dvs)) (upd (upd H dx (.own x)) x (.ins C dx [])) (fun v H2 => v = .non ∧ Q (.ref x) H2) (E σ)) :
    wpAny (model X.prog X.w) X.A (call (.ref C) us) (EP X pins σ Q) X.xe s := by
  have hq := h (s.heap.objs.size + 1) s.heap.objs.size (I.hok.fresh (Nat.le_succ _)) (I.hok.fresh (Nat.le_refl _)) (Nat.ne_of_lt (Nat.lt_succ_self _))
  have I2 := Inv.made (C := C) I
  have r2 : Vals (V.ref (s.heap.objs.size + 1) :: (vs ++ dvs)) (Value.ref (s.heap.objs.size + 1) :: (us ++ ds)) := .cons rfl (r.append hd)
  have hl : (Value.ref (s.heap.objs.size + 1) :: us ++ ds).length = ps.length := by
    have e := r2.length
    rw [F.len _ _ _ _ hq] at e
    exact e.symm
  refine wpAny_call (make_map (f := f) I.kIn M.makes M.init (beq_iff_eq.mp M.fn) (codeAny_mono (F.run _ X.stack _ _ ⟨Value.ref (s.heap.objs.size + 1) :: us, []⟩ (Value.ref (s.heap.objs.size + 1) :: (us ++ ds)) _ _ (E σ) (hr.make C us [])
    (I2.env0.make C us []) (hb _ (Value.ref (s.heap.objs.size + 1) :: us) I2.kIn hl) r2 hq) fun r s' hq' => ?_))
  cases r with
  | error e => exact hx σ pins _ _ e s' I2 hq'
  | ok fl =>
    cases fl with
    | ret u =>
      obtain ⟨v, H', I3, rv, ev, q3⟩ := I2.after hq'
      subst ev
      exact ⟨rv, ⟨V.ref (s.heap.objs.size + 1), H', I3, rfl, q3⟩⟩
    | next => exact False.elim hq'
    | brk => exact False.elim hq'
    | cont => exact False.elim hq'
theorem pe_mkS (M : Mk X.K C f) (F : FnOk X.prog X.w X.K X.mg X.base CX k f fd ps sp) (hr : Room (k + 1) X.A) (hg : Gl X x) (hm : X.mg x = some (.ref C)) (hb : Binds X.K fd ps ds) (hd : Vals dvs ds) (hx : ∀ σ, PassesAt CX X σ (E σ))
    (ha : PA X (e :: es) t) (hdb : (x == ("__debug__" : Str)) = false := by decide) (he : starEach (e :: es) X.env = (false, eval e X.env) :: starEach es X.env := by rfl) (hpl : (backTo pos (starEach es X.env)).any (·.1) = false := by rfl) :
    PE X (.Call (.Name x p) (e :: es) [] pos) (tMakeS C sp dvs E t) := by
  refine ⟨fun pins s σ H Q I h => ?_⟩
  refine wpAny_Call_Name_kw (ld_glob I hg hm ?_ hdb)
  refine PySem.W.callWith_K (h₀ := X.base) I.ok.mod.kin M.kp (thn (ha.run pos pins s σ H _ I h) fun us s1 ⟨vs, H1, I1, r, q⟩ => ⟨I1.kIn, ?_⟩) he hpl
  exact run_makeS M F hr hb hd hx I1 r q
theorem pe_mkS0 (M : Mk X.K C f) (F : FnOk X.prog X.w X.K X.mg X.base CX k f fd ps sp) (hr : Room (k + 1) X.A) (hg : Gl X x) (hm : X.mg x = some (.ref C)) (hb : Binds X.K fd ps ds) (hd : Vals dvs ds) (hx : ∀ σ, PassesAt CX X σ (E σ))
    (hdb : (x == ("__debug__" : Str)) = false := by decide) : PE X (.Call (.Name x p) [] [] pos) (tMakeS C sp dvs E tNil) := by
  refine ⟨fun pins s σ H Q I h => ?_⟩
  refine wpAny_Call_Name_kw (ld_glob I hg hm ?_ hdb)
  exact PySem.W.callWith_K0 I.kIn M.kp (run_makeS (us := []) M F hr hb hd hx I .nil h)
end

/-! ### steps: statements -/
section
variable {σ : L2.St} {H H1 : Hp} {K : PySem.W.Frag} {D : Ends} {t u : TS} {te ta tb : TE} {c : TT} {i : Nat} {v x y : V} {Q : VK} {QB : Bool → Hp → Prop} {A B : Prop} {b : Bool}
theorem x_seq (h : t { D with nx := u D } σ H) : tSeq t u D σ H := h
theorem x_seqA {g : TG} (h : tAsg te g { D with nx := u D } σ H) : tSeq (tAsg te g) u D σ H := h
theorem x_seqD (h : tDrop te { D with nx := u D } σ H) : tSeq (tDrop te) u D σ H := h
theorem x_seqF {f : Str} (h : sFld K ta te f { D with nx := u D } σ H) : tSeq (sFld K ta te f) u D σ H := h
theorem x_seqFA {f : Str} {rd : V → V → Hp → VK → Prop} (h : sFldAug K ta te rd f { D with nx := u D } σ H) : tSeq (sFldAug K ta te rd f) u D σ H := h
theorem x_seqAug {ti : TIp} (h : tAug i te ti { D with nx := u D } σ H) : tSeq (tAug i te ti) u D σ H := h
theorem x_next (q : D.nx σ H) : tNext D σ H := q
theorem x_asg {g : TG} (h : te σ H fun x H1 => g x σ H1 D.nx) : tAsg te g D σ H := h
theorem x_gname {QS : L2.St → Hp → Prop} (q : QS (σ.set i (some v)) H) : gName i v σ H QS := q
theorem x_ret (h : te σ H D.rt) : tRet te D σ H := h
theorem x_retN (h : D.rt .non H) : tRetN D σ H := h
theorem x_drop (h : te σ H fun _ H1 => D.nx σ H1) : tDrop te D σ H := h
theorem x_if (h : c σ H fun b H1 => if b = true then t D σ H1 else u D σ H1) : tIfS c t u D σ H := h
theorem x_iteT (h : A) : if true = true then A else B := iteT h
theorem x_iteF (h : B) : if false = true then A else B := iteF h
theorem x_iteD {p : Prop} [Decidable p] (h1 : p → A) (h2 : ¬ p → B) : if decide p = true then A else B := by
  by_cases h : p
  · rw [decide_eq_true h]; exact iteT (h1 h)
  · rw [decide_eq_false h]; exact iteF (h2 h)
theorem x_iteN (h : if b = true then B else A) : if (!b) = true then A else B := by
  cases b with
  | true => exact h
  | false => exact h
theorem x_iteB (h1 : b = true → A) (h2 : b = false → B) : if b = true then A else B := by
  cases b with
  | true => exact iteT (h1 rfl)
  | false => exact iteF (h2 rfl)
/-- ways that join: J holds at the end of t on every way -/
theorem x_join (J : L2.St → Hp → Prop) (h1 : ∀ R : L2.St → Hp → Prop, (∀ σ' H', J σ' H' → R σ' H') → t { D with nx := R } σ H) (h2 : ∀ σ' H', J σ' H' → u D σ' H') : tSeq t u D σ H := h1 (u D) h2
/-! ### steps: expressions -/
theorem x_var (h : σ[i]? = some (some v)) (q : Q v H) : tVar i σ H Q := ⟨v, h, q⟩
theorem x_c (q : Q v H) : tC v σ H Q := q
theorem x_op {r : R2} (h : ta σ H fun x H1 => tb σ H1 fun y H2 => r x y H2 Q) : tOp r ta tb σ H Q := h
theorem x_un {r : V → Hp → VK → Prop} (h : ta σ H fun x H1 => r x H1 Q) : tUn r ta σ H Q := h
theorem x_cb {r : List V → Hp → VK → Prop} {t : TA} (h : t σ H fun vs H1 => r vs H1 Q) : tCB r t σ H Q := h
theorem x_nil {QA : List V → Hp → Prop} (q : QA [] H) : tNil σ H QA := q
theorem x_cons {QA : List V → Hp → Prop} {tr : TA} (h : ta σ H fun x H1 => tr σ H1 fun xs H2 => QA (x :: xs) H2) : tCons ta tr σ H QA := h
theorem x_callS {sp : Sp} {E : L2.St → XK} {t : TA} (h : t σ H fun vs H1 => sp vs H1 Q (E σ)) : tCallS sp E t σ H Q := h
theorem x_ifExp (h : c σ H fun c H1 => if c = true then ta σ H1 Q else tb σ H1 Q) : tIf c ta tb σ H Q := h
theorem x_test (h : te σ H fun x H' => ∃ k, x = .bl k ∧ QB k H') : tTest te σ H QB := h
theorem x_tB (h : te σ H fun x H' => ∃ k, x = .bl k ∧ QB k H') : tB te σ H QB := h
theorem x_and {t u : TT} (h : t σ H fun c H1 => if c = true then u σ H1 QB else QB false H1) : tAnd t u σ H QB := h
theorem x_or {t u : TT} (h : t σ H fun c H1 => if c = true then QB true H1 else u σ H1 QB) : tOr t u σ H QB := h
theorem x_not {t : TT} (h : t σ H fun c H1 => QB (!c) H1) : tNot t σ H QB := h
theorem x_andT (h : ta σ H fun x H1 => ∃ k, TruV K x H1 k ∧ if k = true then tb σ H1 Q else Q x H1) : tAndT K ta tb σ H Q := h
theorem x_orT (h : ta σ H fun x H1 => ∃ k, TruV K x H1 k ∧ if k = true then Q x H1 else tb σ H1 Q) : tOrT K ta tb σ H Q := h
theorem x_notT (h : ta σ H fun x H1 => ∃ k, TruV K x H1 k ∧ Q (.bl (!k)) H1) : tNotT K ta σ H Q := h
theorem x_truB (q : A) {P : Bool → Prop} (h : P b) : ∃ k, TruV K (.bl b) H k ∧ P k := ⟨b, rfl, h⟩
theorem x_truBl {P : Bool → Prop} (h : P b) : ∃ k, TruV K (.bl b) H k ∧ P k := ⟨b, rfl, h⟩
theorem x_isbl {P : Bool → Prop} (h : P b) : ∃ k, V.bl b = .bl k ∧ P k := ⟨b, rfl, h⟩
theorem x_chain {r r' : R2} {tc : TE} (h : ta σ H fun x H1 => tb σ H1 fun y H2 => r x y H2 fun z H3 => ∃ k, z = .bl k ∧ if k = true then tc σ H3 fun z' H4 => r' y z' H4 Q else Q (.bl false) H3) : tChain r r' ta tb tc σ H Q := h
/-! ### steps: operators on values -/
variable {m n : Int} {s1 s2 : Str}
theorem x_addI (q : Q (.int (m + n)) H) : uAdd K (.int m) (.int n) H Q := .inl ⟨m, n, rfl, rfl, q⟩
theorem x_addS (q : Q (.str (s1 ++ s2)) H) (h : s1.length + s2.length ≤ sizeLine) : uAdd K (.str s1) (.str s2) H Q := .inr (.inl ⟨s1, s2, rfl, rfl, h, q⟩)
theorem x_I0 {g : Int → Int → V} (q : Q (g m n) H) : rI0 g (.int m) (.int n) H Q := ⟨m, n, rfl, rfl, q⟩
theorem x_I {C : Int → Int → Prop} {g : Int → Int → V} (q : Q (g m n) H) (h : C m n) : rI C g (.int m) (.int n) H Q := ⟨m, n, rfl, rfl, h, q⟩
theorem x_pow {g : Int → Int → V} (q : Q (g m n) H) (h : CPow m n) : rI CPow g (.int m) (.int n) H Q := ⟨m, n, rfl, rfl, h, q⟩
theorem x_lt (q : Q (.bl (decide (m < n))) H) : uLt (.int m) (.int n) H Q := ⟨m, n, rfl, rfl, q⟩
theorem x_mulI (q : Q (.int (m * n)) H) (h : CMul m n) : uMul (.int m) (.int n) H Q := .inl ⟨m, n, rfl, rfl, h, q⟩
theorem x_mulU (q : Q (.int (m * n)) H) (h : m.natAbs < 2 ^ 250 ∧ n.natAbs < 2 ^ 250) : uMul (.int m) (.int n) H Q := .inr (.inr ⟨m, n, rfl, rfl, wide_mul h.1 h.2 (by decide) (by decide) (by decide), q⟩)
theorem same_upd {o : HO} {p : Addr} (h : H p = none) : Same H (upd H p o) := fun b u e => by rw [upd_ne (ne_of_none e h)]; exact e
theorem same_updS {H H' : Hp} {o : HO} {p : Addr} (s : Same H H') (h : H p = none) : Same H (upd H' p o) := fun b u e => by rw [upd_ne (ne_of_none e h)]; exact s _ _ e
theorem cutV_from {xs : List V} (k : Nat) : cutV xs (some (k : Int)) none = xs.drop k := by
  unfold cutV
  rw [HT.sIx_nat, HT.sIx_none]
  by_cases h : k ≤ xs.length
  · rw [Nat.min_eq_left h, List.take_of_length_le (by rw [List.length_drop]; exact Nat.le_refl _)]
  · rw [Nat.min_eq_right (by omega), List.drop_of_length_le (Nat.le_refl _), List.drop_of_length_le (by omega), List.take_nil]
theorem cutV_to {xs : List V} (k : Nat) : cutV xs none (some (k : Int)) = xs.take k := by
  unfold cutV
  rw [HT.sIx_nat, HT.sIx_none, List.drop_zero, Nat.sub_zero]
  by_cases h : k ≤ xs.length
  · rw [Nat.min_eq_left h]
  · rw [Nat.min_eq_right (by omega), List.take_of_length_le (Nat.le_refl _), List.take_of_length_le (by omega)]
/-- a new object: what is asked of it -/
abbrev New (H : Hp) (Q : VK) (o : HO) : Prop := ∀ p H1, H p = none → Same H H1 → H1 p = some o → Q (.ref p) H1
theorem New.mk {o : HO} (h : New H Q o) : ∀ p, H p = none → Q (.ref p) (upd H p o) := fun p hp => h p _ hp (same_upd hp) upd_same
def nwL (Q : VK) : List V → Hp → Prop := fun xs H1 => xs.length ≤ sizeLine ∧ ∀ p, H1 p = none → Q (.ref p) (upd H1 p (.lst xs))
def nwT (Q : VK) : List V → Hp → Prop := fun xs H1 => xs.length ≤ sizeLine ∧ ∀ p, H1 p = none → Q (.ref p) (upd H1 p (.tup xs))
theorem x_nwL {xs : List V} (h : New H Q (.lst xs)) (hl : xs.length ≤ sizeLine) : nwL Q xs H := ⟨hl, h.mk⟩
theorem x_nwT {xs : List V} (h : New H Q (.tup xs)) (hl : xs.length ≤ sizeLine) : nwT Q xs H := ⟨hl, h.mk⟩
theorem x_addL {l l' : Addr} {xs ys : List V} (h1 : H l = some (.lst xs)) (h2 : H l' = some (.lst ys)) (q : New H Q (.lst (xs ++ ys))) (hl : xs.length + ys.length ≤ sizeLine) : uAdd K (.ref l) (.ref l') H Q :=
  .inr (.inr (.inl ⟨l, l', xs, ys, rfl, rfl, h1, h2, hl, q.mk⟩))
theorem x_rep {l : Addr} {xs : List V} (h1 : H l = some (.lst xs)) (q : New H Q (.lst (List.replicate n.toNat xs).flatten)) (h2 : n < 2 ^ 63) (h0 : 0 ≤ n) (hl : xs.length * n.toNat ≤ sizeLine) : uMul (.ref l) (.int n) H Q :=
  .inr (.inl ⟨l, n, xs, rfl, rfl, h1, Int.le_trans (by decide) h0, h2, hl, q.mk⟩)
theorem flat_rep {v : V} : ∀ n : Nat, (List.replicate n [v]).flatten = List.replicate n v
  | 0 => rfl
  | n + 1 => by rw [List.replicate_succ, List.flatten_cons, flat_rep n]; rfl
/-- [v] * n -/
theorem x_rep1 {l : Addr} {v : V} (h1 : H l = some (.lst [v])) (q : New H Q (.lst (List.replicate n.toNat v))) (h : 0 ≤ n ∧ n ≤ 1000000) : uMul (.ref l) (.int n) H Q :=
  x_rep h1 (by rw [flat_rep]; exact q) (by omega) h.1 (by rw [List.length_singleton, Nat.one_mul]; exact Nat.le_trans (show n.toNat ≤ 1000000 by omega) (by decide))
theorem cdivW {i j : Int} (h : 0 < j) (h2 : j < 10 ^ 60) : CDivW i j := by
  refine wide_div (b := 200) h ?_ (by decide) (by decide)
  have : (2:Nat) ^ 200 = 1606938044258990275541962092341162602522202993782792835301376 := by decide
  omega
theorem x_shl (q : Q (.int (m * 2 ^ n.toNat)) H) (h : CShl m n) : uShl (.int m) (.int n) H Q := ⟨m, n, rfl, rfl, h, q⟩
theorem x_U {g : Int → V} (q : Q (g m) H) : rU g (.int m) H Q := ⟨m, rfl, q⟩
theorem x_eqI (q : Q (.bl (decide (m = n))) H) : uEq K (.int m) (.int n) H Q := .inl ⟨rfl, by rw [dec_int, ← Bool.beq_eq_decide_eq] at *; exact q⟩
theorem x_neI (q : Q (.bl (!decide (m = n))) H) : uNe K (.int m) (.int n) H Q := .inl ⟨rfl, by rw [dec_int, ← Bool.beq_eq_decide_eq] at *; exact q⟩
theorem x_eqB {b c : Bool} (q : Q (.bl (decide (b = c))) H) : uEq K (.bl b) (.bl c) H Q := .inl ⟨rfl, by rw [dec_bl, ← Bool.beq_eq_decide_eq] at *; exact q⟩
theorem x_neB {b c : Bool} (q : Q (.bl (!decide (b = c))) H) : uNe K (.bl b) (.bl c) H Q := .inl ⟨rfl, by rw [dec_bl, ← Bool.beq_eq_decide_eq] at *; exact q⟩
theorem x_eqS (q : Q (.bl (decide (s1 = s2))) H) : uEq K (.str s1) (.str s2) H Q := .inl ⟨rfl, by rw [dec_str] at *; rw [show decide (s1 = s2) = (s1 == s2) from by rw [Bool.beq_eq_decide_eq]] at q; exact q⟩
theorem x_tup {t : TA} (h : t σ H (nwT Q)) : tTup t σ H Q := h
theorem x_lst {t : TA} (h : t σ H (nwL Q)) : tLst t σ H Q := h
/-! ### steps: sequences -/
variable {p : Addr} {xs : List V} {ns : List Int}
theorem atI_getD {α : Type} {xs : List α} {i : Int} (d : α) (h0 : 0 ≤ i) (h1 : i < xs.length) : atI xs i = some (xs.getD i.toNat d) := by
  obtain ⟨j, rfl⟩ : ∃ j : Nat, i = (j : Int) := ⟨i.toNat, by omega⟩
  have hj : j < xs.length := by omega
  exact atI_nat (by simp [hj])
theorem x_ixI (h : SqL K H p (ns.map V.int)) (q : Q (.int (ns.getD n.toNat 0)) H) (h0 : 0 ≤ n) (h1 : n < ns.length) : rIx K (.ref p) (.int n) H Q :=
  .inl ⟨p, _, n, _, rfl, rfl, h, by
    rw [atI_getD (.int 0) h0 (by rw [List.length_map]; exact h1)]
    have hn : n.toNat < ns.length := by omega
    simp [hn], q⟩
theorem x_ixS (h : SqL K H p xs) (ha : atI xs n = some v) (q : Q v H) : rIx K (.ref p) (.int n) H Q := .inl ⟨p, _, n, _, rfl, rfl, h, ha, q⟩
theorem atI_0 {α : Type} {x : α} {xs : List α} : atI (x :: xs) 0 = some x := atI_nat (j := 0) (by simp)
theorem x_ixH (h : SqL K H p (v :: xs)) (q : Q v H) : rIx K (.ref p) (.int 0) H Q := .inl ⟨p, _, 0, _, rfl, rfl, h, atI_0, q⟩
theorem atI_any (n : Nat) (hn : 0 < n) (o : Int) (ho : o = 0 ∨ o = -1) : ∃ i, i < n ∧ ∀ {α : Type} (xs : List α), xs.length = n → atI xs o = xs[i]? := by
  rcases ho with rfl | rfl
  · exact ⟨0, hn, fun xs h => by
      cases xs with
      | nil => simp at h; omega
      | cons x xs => rw [atI_0]; rfl⟩
  · refine ⟨n - 1, by omega, fun xs h => ?_⟩
    unfold atI ixN
    rw [h, if_neg (by decide), if_pos (by omega)]
    show xs[((n : Int) + -1).toNat]? = _
    rw [show ((n : Int) + -1).toNat = n - 1 by omega]
theorem x_ixL (h : SqL K H p xs) (q : Q (xs.getD n.toNat .non) H) (h0 : 0 ≤ n) (h1 : n < xs.length) : rIx K (.ref p) (.int n) H Q :=
  .inl ⟨p, _, n, _, rfl, rfl, h, atI_getD _ h0 h1, q⟩
theorem x_ixT (h : SqT K H p xs) (ha : atI xs n = some v) (q : Q v H) : rIx K (.ref p) (.int n) H Q :=
  .inr (.inl ⟨p, _, n, _, rfl, rfl, h, ha, q⟩)
end

/-! ### data -/
section
variable {X : Cx} {σ : L2.St} {H H' : Hp} {K : PySem.W.Frag} {Q : VK} {x y : V}
theorem cl_all : ∀ ds : List PyData, PyData.canLayAll0 ds = true ↔ ∀ d ∈ ds, PyData.canLay0 d = true
  | [] => by simp [PyData.canLayAll0]
  | d :: ds => by rw [PyData.canLayAll0, Bool.and_eq_true, cl_all ds]; simp
theorem dp_all {k : Nat} : ∀ ds : List PyData, PyData.depthAll ds ≤ k ↔ ∀ d ∈ ds, PyData.depth d ≤ k
  | [] => by simp [PyData.depthAll]
  | d :: ds => by rw [PyData.depthAll, Nat.max_le, dp_all ds]; simp
/-- data of a depth that can be compared -/
def Sh (k : Nat) (d : PyData) : Prop := d.canLay0 = true ∧ d.depth ≤ k
theorem Sh.list {k : Nat} {ds : List PyData} (h : ∀ d ∈ ds, Sh k d) : Sh (k + 1) (.list ds) := ⟨by rw [PyData.canLay0]; exact (cl_all ds).mpr fun d m => (h d m).1, by rw [PyData.depth]; exact Nat.succ_le_succ ((dp_all ds).mpr fun d m => (h d m).2)⟩
theorem Sh.tup {k : Nat} {ds : List PyData} (h : ∀ d ∈ ds, Sh k d) : Sh (k + 1) (.tuple ds) := ⟨by rw [PyData.canLay0]; exact (cl_all ds).mpr fun d m => (h d m).1, by rw [PyData.depth]; exact Nat.succ_le_succ ((dp_all ds).mpr fun d m => (h d m).2)⟩
theorem Sh.int {k : Nat} {n : Int} : Sh k (.int n) := ⟨by simp [PyData.canLay0], by simp [PyData.depth]⟩
theorem Sh.non {k : Nat} : Sh k .none := ⟨by simp [PyData.canLay0], by simp [PyData.depth]⟩
theorem Sh.bl {k : Nat} {b : Bool} : Sh k (.bool b) := ⟨by simp [PyData.canLay0], by simp [PyData.depth]⟩
theorem Sh.str {k : Nat} {s : Str} (h : PyData.strOk s = true) : Sh k (.str s) := ⟨by rw [PyData.canLay0]; exact h, by simp [PyData.depth]⟩
theorem Sh.shaped {k : Nat} {d : PyData} (h : Sh k d) (hk : k ≤ 64) : SeqAt.shaped d = true := by
  unfold SeqAt.shaped
  rw [h.1, decide_eq_true (Nat.le_trans h.2 hk)]
  rfl
theorem Sh.refl {k : Nat} {d : PyData} (h : Sh k d) : PyData.eqv d d = true := SeqAt.eqv_refl d h.1
theorem x_eqD {d e : PyData} (h1 : Dp K H x d) (h2 : Dp K H y e) (s1 : Sh 9 d) (s2 : Sh 9 e) (q : Q (.bl (PyData.eqv d e)) H) : uEq K x y H Q := .inr ⟨d, e, h1, h2, s1.shaped (by decide), s2.shaped (by decide), q⟩
theorem x_neD {d e : PyData} (h1 : Dp K H x d) (h2 : Dp K H y e) (s1 : Sh 9 d) (s2 : Sh 9 e) (q : Q (.bl (!PyData.eqv d e)) H) : uNe K x y H Q := .inr ⟨d, e, h1, h2, s1.shaped (by decide), s2.shaped (by decide), q⟩
/-- the same data -/
theorem x_eqS2 {d : PyData} (h1 : Dp K H x d) (h2 : Dp K H y d) (s1 : Sh 9 d) (q : Q (.bl true) H) : uEq K x y H Q := x_eqD h1 h2 s1 s1 (by rw [s1.refl]; exact q)
theorem x_neS2 {d : PyData} (h1 : Dp K H x d) (h2 : Dp K H y d) (s1 : Sh 9 d) (q : Q (.bl false) H) : uNe K x y H Q := x_neD h1 h2 s1 s1 (by rw [s1.refl]; exact q)
theorem dpAll_of : ∀ {vs : List V} {ds : List PyData}, vs.length = ds.length → (∀ (i : Nat) v d, vs[i]? = some v → ds[i]? = some d → Dp K H v d) → DpAll K H vs ds
  | [], [], _, _ => .nil
  | v :: vs, d :: ds, hl, h => .cons (h 0 v d rfl rfl) (dpAll_of (by simpa using hl) fun i a b h1 h2 => h (i + 1) a b h1 h2)
theorem dpInts : ∀ {ns : List Int}, DpAll K H (ns.map V.int) (ns.map PyData.int)
  | [] => .nil
  | n :: ns => .cons (.int n) dpInts
end
/-! ### loops -/
section
variable {X : Cx} {σ : L2.St} {H : Hp} {K : PySem.W.Frag} {D : Ends} {g : TG} {tb : TS} {tl te : TE} {tt : TT} {ta : TA} {a : Addr} {xs : List V} {Q : VK} {vs : List Nat}
theorem sl_u : SlR X (rSlL X.K) := sl_list
theorem x_slice {to th : TO} {r : V → Option Int → Option Int → Hp → VK → Prop} (h : te σ H fun x H1 => to σ H1 fun l H2 => th σ H2 fun u H3 => r x l u H3 Q) : tSl r te to th σ H Q := h
theorem x_noPart {QO : Option Int → Hp → Prop} (q : QO none H) : tNoPart σ H QO := q
def ptK (QO : Option Int → Hp → Prop) : V → Hp → Prop := fun x H1 => ∃ i, x = .int i ∧ QO (some i) H1
theorem x_part {QO : Option Int → Hp → Prop} (h : te σ H (ptK QO)) : tPart te σ H QO := h
theorem x_ptK {QO : Option Int → Hp → Prop} {i : Int} (q : QO (some i) H) : ptK QO (.int i) H := ⟨i, rfl, q⟩
theorem x_slL {lo hi : Option Int} (h : SqL K H a xs) (q : New H Q (.lst (cutV xs lo hi))) : rSlL K (.ref a) lo hi H Q := ⟨a, xs, rfl, h, q.mk⟩
def loopK (J : It) (g : TG) (tb : TS) (D : Ends) (σ : L2.St) (H1 : Hp) : Prop := ∃ W : Nat → Nat → L2.St → Hp → Prop, (∃ m, W 0 m σ H1) ∧ ∀ i m σ H, W i m σ H →
  (J.stop i H ∧ D.nx σ H) ∨ (J.go i H ∧ ∃ N : L2.St → Hp → Prop, (∀ σ' H', N σ' H' → ∃ m', m' < m ∧ W (i + 1) m' σ' H') ∧ ∀ x H', J.yld i H x H' → g x σ H' fun σ2 H2 => tb { D with nx := N, ct := N, bk := D.nx } σ2 H2)
def frL (K : PySem.W.Frag) (g : TG) (tb : TS) (D : Ends) (σ : L2.St) : V → Hp → Prop := fun x H1 => ∃ a, x = .ref a ∧ (∃ xs, SqL K H1 a xs) ∧ loopK (Itl K a) g tb D σ H1
theorem x_forL (h : tl σ H (frL K g tb D σ)) : tFor (iList K tl) g tb D σ H := h
theorem x_frL (hq : SqL K H a xs) (Pv : Nat → L2.St → Hp → Prop) (h0 : Pv 0 σ H) (hl : ∀ i σ H, i ≤ xs.length → Pv i σ H → SqL K H a xs)
    (hs : ∀ i x σ H, xs[i]? = some x → Pv i σ H → g x σ H fun σ2 H2 => tb { D with nx := Pv (i + 1), ct := Pv (i + 1), bk := D.nx } σ2 H2) (hd : ∀ σ H, Pv xs.length σ H → D.nx σ H) : frL K g tb D σ (.ref a) H :=
  ⟨a, rfl, ⟨_, hq⟩, for_list Pv h0 hl hs hd⟩
def frT (K : PySem.W.Frag) (g : TG) (tb : TS) (D : Ends) (σ : L2.St) : V → Hp → Prop := fun x H1 => ∃ a, x = .ref a ∧ (∃ xs, SqT K H1 a xs) ∧ loopK (Itt K a) g tb D σ H1
theorem x_forT (h : tl σ H (frT K g tb D σ)) : tFor (iTup K tl) g tb D σ H := h
theorem x_frT (hq : SqT K H a xs) (Pv : Nat → L2.St → Hp → Prop) (h0 : Pv 0 σ H) (hl : ∀ i σ H, i ≤ xs.length → Pv i σ H → SqT K H a xs)
    (hs : ∀ i x σ H, xs[i]? = some x → Pv i σ H → g x σ H fun σ2 H2 => tb { D with nx := Pv (i + 1), ct := Pv (i + 1), bk := D.nx } σ2 H2) (hd : ∀ σ H, Pv xs.length σ H → D.nx σ H) : frT K g tb D σ (.ref a) H :=
  ⟨a, rfl, ⟨_, hq⟩, for_tup Pv h0 hl hs hd⟩
/-! a loop over a list or a tuple -/
def SqX (K : PySem.W.Frag) (H : Hp) (a : Addr) (xs : List V) : Prop := SqL K H a xs ∨ SqT K H a xs
def iSeq (K : PySem.W.Frag) (tl : TE) : TI := fun σ H R => tl σ H fun x H1 => ∃ a, x = .ref a ∧ (((∃ xs, SqL K H1 a xs) ∧ R (Itl K a) H1) ∨ ((∃ xs, SqT K H1 a xs) ∧ R (Itt K a) H1))
theorem pi_seq {X : Cx} {tg l : Expr} {tl : TE} (hl : PE X l tl) : PI X tg l (iSeq X.K tl) := by
  refine ⟨fun pins s σ H R I h => thn (hl.run pins s σ H _ I h) fun v s1 ⟨x, H1, I1, r1, a, e, q⟩ => ?_⟩
  subst e; cases r1
  have fp : ∀ b ∈ [s1.heap.objs.size], _ := fun b hb => (List.mem_singleton.mp hb) ▸ I1.fpOk (Nat.le_refl _) (I1.hok.fresh (Nat.le_refl _))
  rcases q with ⟨⟨xs, hq⟩, q⟩ | ⟨⟨xs, hq⟩, q⟩
  · obtain ⟨its, rv, p, hz⟩ := I1.list hq
    exact wpAny_pyIter_list p.isList ⟨s1.heap.objs.size, [s1.heap.objs.size], _, _, H1, rfl, I1.kept (t' := s1.toks) fun b o e => Heap.get?_push_of_some _ e, turn_list a _, ⟨_, Heap.get?_push_size _ rfl, rfl, rfl⟩, fp, q⟩
  · obtain ⟨its, rv, p, hz⟩ := I1.tuple hq
    exact wpAny_pyIter_tuple (show s1.heap.IsTuple a its.toArray from p) ⟨s1.heap.objs.size, [s1.heap.objs.size], _, _, H1, rfl, I1.kept (t' := s1.toks) fun b o e => Heap.get?_push_of_some _ e, turn_tuple a _, ⟨_, Heap.get?_push_size _ rfl, rfl, rfl⟩, fp, q⟩
def frS (K : PySem.W.Frag) (g : TG) (tb : TS) (D : Ends) (σ : L2.St) : V → Hp → Prop := fun x H1 => ∃ a, x = .ref a ∧ (((∃ xs, SqL K H1 a xs) ∧ loopK (Itl K a) g tb D σ H1) ∨ ((∃ xs, SqT K H1 a xs) ∧ loopK (Itt K a) g tb D σ H1))
theorem x_forS (h : tl σ H (frS K g tb D σ)) : tFor (iSeq K tl) g tb D σ H := h
/-- a list (k) or a tuple -/
def SqB (k : Bool) (K : PySem.W.Frag) (H : Hp) (a : Addr) (xs : List V) : Prop := if k = true then SqL K H a xs else SqT K H a xs
theorem sqB_of (h : H a = some (.lst xs) ∨ H a = some (.tup xs)) : ∃ k, ∀ H', Same H H' → SqB k K H' a xs := by
  rcases h with h | h
  · exact ⟨true, fun H' s => SqL.of (s _ _ h)⟩
  · exact ⟨false, fun H' s => SqT.of (s _ _ h)⟩
theorem x_frS {k : Bool} (hq : SqB k K H a xs) (Pv : Nat → L2.St → Hp → Prop) (h0 : Pv 0 σ H) (hl : ∀ i σ' H', i ≤ xs.length → Pv i σ' H' → SqB k K H' a xs)
    (hs : ∀ i x σ H, xs[i]? = some x → Pv i σ H → g x σ H fun σ2 H2 => tb { D with nx := Pv (i + 1), ct := Pv (i + 1), bk := D.nx } σ2 H2) (hd : ∀ σ H, Pv xs.length σ H → D.nx σ H) : frS K g tb D σ (.ref a) H := by
  cases k with
  | true => exact ⟨a, rfl, .inl ⟨⟨_, hq⟩, for_list Pv h0 hl hs hd⟩⟩
  | false => exact ⟨a, rfl, .inr ⟨⟨_, hq⟩, for_tup Pv h0 hl hs hd⟩⟩
def frR1 (g : TG) (tb : TS) (D : Ends) (σ : L2.St) : List V → Hp → Prop := fun vs H1 => ∃ j : Int, vs = [.int j] ∧ -(2 ^ 62) ≤ j ∧ j < 2 ^ 62 ∧ loopK (Itr 0 j.toNat) g tb D σ H1
theorem x_forR1 (h : ta σ H (frR1 g tb D σ)) : tFor (iRng1 ta) g tb D σ H := h
theorem x_frR1 {j : Int} (b : -(2 ^ 62) ≤ j ∧ j < 2 ^ 62) (Pv : Nat → L2.St → Hp → Prop) (h0 : Pv 0 σ H)
    (hs : ∀ i σ H, i < j.toNat → Pv i σ H → g (.int (0 + i)) σ H fun σ2 H2 => tb { D with nx := Pv (i + 1), ct := Pv (i + 1), bk := D.nx } σ2 H2) (hd : ∀ σ H, Pv j.toNat σ H → D.nx σ H) : frR1 g tb D σ [.int j] H :=
  ⟨j, rfl, b.1, b.2, for_range Pv h0 hs hd⟩
def frR2 (g : TG) (tb : TS) (D : Ends) (σ : L2.St) : List V → Hp → Prop := fun vs H1 => ∃ i j : Int, vs = [.int i, .int j] ∧ (-(2 ^ 62) ≤ i ∧ i < 2 ^ 62 ∧ -(2 ^ 62) ≤ j ∧ j < 2 ^ 62) ∧ loopK (Itr i (j - i).toNat) g tb D σ H1
theorem x_forR2 (h : ta σ H (frR2 g tb D σ)) : tFor (iRng2 ta) g tb D σ H := h
theorem x_frR2 {lo j : Int} (b : -(2 ^ 62) ≤ lo ∧ lo < 2 ^ 62 ∧ -(2 ^ 62) ≤ j ∧ j < 2 ^ 62) (Pv : Nat → L2.St → Hp → Prop) (h0 : Pv 0 σ H)
    (hs : ∀ i σ H, i < (j - lo).toNat → Pv i σ H → g (.int (lo + i)) σ H fun σ2 H2 => tb { D with nx := Pv (i + 1), ct := Pv (i + 1), bk := D.nx } σ2 H2) (hd : ∀ σ H, Pv (j - lo).toNat σ H → D.nx σ H) : frR2 g tb D σ [.int lo, .int j] H :=
  ⟨lo, j, rfl, b, for_range Pv h0 hs hd⟩
theorem x_gtup2 {i j : Nat} {QS : L2.St → Hp → Prop} {x y : V} (h : SqT K H a [x, y]) (q : QS ((σ.set i (some x)).set j (some y)) H) : gTup K 2 (gCons (gName i) (gCons (gName j) gNil)) (.ref a) σ H QS :=
  ⟨a, [x, y], rfl, h, rfl, x, [y], rfl, y, [], rfl, rfl, q⟩
theorem x_gtup3 {i j k : Nat} {QS : L2.St → Hp → Prop} {x y z : V} (h : SqT K H a [x, y, z]) (q : QS (((σ.set i (some x)).set j (some y)).set k (some z)) H) : gTup K 3 (gCons (gName i) (gCons (gName j) (gCons (gName k) gNil))) (.ref a) σ H QS :=
  ⟨a, [x, y, z], rfl, h, rfl, x, [y, z], rfl, y, [z], rfl, z, [], rfl, rfl, q⟩
def frEn (K : PySem.W.Frag) (g : TG) (tb : TS) (D : Ends) (σ : L2.St) : List V → Hp → Prop := fun vs H1 => ∃ a xs, vs = [.ref a] ∧ SqL K H1 a xs ∧ loopK (Ite K a) g tb D σ H1
theorem x_forEn (h : ta σ H (frEn K g tb D σ)) : tFor (iEnum K ta) g tb D σ H := h
theorem x_frEn {n1 n2 : Nat} (hq : SqL K H a xs) (Pv : Nat → L2.St → Hp → Prop) (h0 : Pv 0 σ H) (hl : ∀ i σ H, i ≤ xs.length → Pv i σ H → SqL K H a xs)
    (hs : ∀ i x σ H H', xs[i]? = some x → Pv i σ H → Same H H' → tb { D with nx := Pv (i + 1), ct := Pv (i + 1), bk := D.nx } ((σ.set n1 (some (.int (i : Nat)))).set n2 (some x)) H') (hd : ∀ σ H, Pv xs.length σ H → D.nx σ H) :
    frEn K (gTup K 2 (gCons (gName n1) (gCons (gName n2) gNil))) tb D σ [.ref a] H := by
  refine ⟨a, xs, rfl, hq, fun i m σ H => m = xs.length - i ∧ i ≤ xs.length ∧ Pv i σ H, ⟨xs.length, rfl, Nat.zero_le _, h0⟩, ?_⟩
  rintro i m σ H ⟨rfl, hi, p⟩
  have q := hl i σ H hi p
  by_cases hlt : i < xs.length
  · refine .inr ⟨⟨xs, _, q, List.getElem?_eq_getElem hlt⟩, Pv (i + 1), fun σ' H' p' => ⟨xs.length - (i + 1), by omega, rfl, hlt, p'⟩, fun v H' y => ?_⟩
    obtain ⟨T, x, rfl, hT, rfl, f1⟩ := y
    exact x_gtup2 (SqT.of upd_same) (hs i x σ H _ (f1 xs q) p (same_upd hT))
  · have e : i = xs.length := by omega
    subst e
    exact .inl ⟨⟨xs, q, Nat.le_refl _⟩, hd σ H p⟩
def frZ (K : PySem.W.Frag) (g : TG) (tb : TS) (D : Ends) (σ : L2.St) : List V → Hp → Prop := fun vs H1 => ∃ a b xs ys, vs = [.ref a, .ref b] ∧ SqL K H1 a xs ∧ SqL K H1 b ys ∧ loopK (Itz K a b) g tb D σ H1
theorem x_forZ (h : ta σ H (frZ K g tb D σ)) : tFor (iZip K ta) g tb D σ H := h
theorem x_frZ {n1 n2 : Nat} {b : Addr} {ys : List V} (hq : SqL K H a xs) (hq2 : SqL K H b ys) (hxy : xs.length = ys.length) (Pv : Nat → L2.St → Hp → Prop) (h0 : Pv 0 σ H) (hl : ∀ i σ H, Pv i σ H → SqL K H a xs ∧ SqL K H b ys)
    (hs : ∀ i x y σ H H', xs[i]? = some x → ys[i]? = some y → Pv i σ H → Same H H' → tb { D with nx := Pv (i + 1), ct := Pv (i + 1), bk := D.nx } ((σ.set n1 (some x)).set n2 (some y)) H') (hd : ∀ σ H, Pv xs.length σ H → D.nx σ H) :
    frZ K (gTup K 2 (gCons (gName n1) (gCons (gName n2) gNil))) tb D σ [.ref a, .ref b] H := by
  refine ⟨a, b, xs, ys, rfl, hq, hq2, fun i m σ H => m = xs.length - i ∧ i ≤ xs.length ∧ Pv i σ H, ⟨xs.length, rfl, Nat.zero_le _, h0⟩, ?_⟩
  rintro i m σ H ⟨rfl, hi, p⟩
  obtain ⟨qx, qy⟩ := hl i σ H p
  by_cases hlt : i < xs.length
  · refine .inr ⟨⟨xs, ys, _, _, qx, qy, List.getElem?_eq_getElem hlt, List.getElem?_eq_getElem (by omega)⟩, Pv (i + 1), fun σ' H' p' => ⟨xs.length - (i + 1), by omega, rfl, hlt, p'⟩, fun v H' y => ?_⟩
    obtain ⟨T, x', y', rfl, hT, rfl, f1, f2⟩ := y
    exact x_gtup2 (SqT.of upd_same) (hs i x' y' σ H _ (f1 xs qx) (f2 ys qy) p (same_upd hT))
  · have e : i = xs.length := by omega
    subst e
    exact .inl ⟨⟨xs, ys, qx, qy, Or.inl (Nat.le_refl _)⟩, hd σ H p⟩
/-! comprehensions -/
/-- tuples stay -/
def TupS (H H' : Hp) : Prop := ∀ a xs, H a = some (.tup xs) → H' a = some (.tup xs)
theorem TupS.of {H H' : Hp} (h : Same H H') : TupS H H' := fun a xs e => h a _ e
theorem TupS.trans {H H1 H2 : Hp} (a : TupS H H1) (b : TupS H1 H2) : TupS H H2 := fun c o h => b c o (a c o h)
theorem TupS.upd {H : Hp} {p : Addr} {o o' : HO} (h : H p = some o) (ho : ∀ xs, o ≠ .tup xs) : TupS H (upd H p o') := fun a xs e => by
  rw [upd_ne (ne_of e h (fun z => ho xs z.symm))]; exact e
def lcK (J : It) (g : TG) (tt : TT) (te : TE) (vs : List Nat) (σ : L2.St) (Q : VK) (H1 : Hp) : Prop := ∀ D, H1 D = none → ∃ W : Nat → Nat → Hp → Prop, (∃ m, W 0 m (upd H1 D (.lst []))) ∧ ∀ i m H, W i m H →
  (J.stop i H ∧ Q (.ref D) H) ∨ (J.go i H ∧ ∃ Nx : Hp → Prop, (∀ H', Nx H' → ∃ m', m' < m ∧ W (i + 1) m' H') ∧ ∀ x H', J.yld i H x H' → g x (wipe σ vs) H' fun σ2 H2 => wipe σ2 vs = wipe σ vs ∧ tt σ2 H2 fun b H3 =>
    if b = true then te σ2 H3 fun y H4 => ∃ acc, H4 D = some (.lst acc) ∧ acc.length < sizeLine ∧ Nx (upd H4 D (.lst (acc ++ [y]))) else Nx H3)
def lcL (K : PySem.W.Frag) (g : TG) (tt : TT) (te : TE) (vs : List Nat) (σ : L2.St) (Q : VK) : V → Hp → Prop := fun x H1 => ∃ a, x = .ref a ∧ (∃ xs, SqL K H1 a xs) ∧ lcK (Itl K a) g tt te vs σ Q H1
theorem x_lcL (h : tl σ H (lcL K g tt te vs σ Q)) : tLc (iList K tl) g tt te vs σ H Q := h
/-- what a turn of a comprehension asks -/
def LcTurn (g : TG) (tt : TT) (te : TE) (vs : List Nat) (σ : L2.St) (A : Nat → List V → Hp → Prop) (i : Nat) (x : V) (acc : List V) (H' : Hp) : Prop :=
  ∀ (NY : VK) (NN : Hp → Prop), (∀ y H4, Same H' H4 → A (i + 1) (acc ++ [y]) H4 → NY y H4) → (∀ H3, Same H' H3 → A (i + 1) acc H3 → NN H3) →
    g x (wipe σ vs) H' fun σ2 H2 => wipe σ2 vs = wipe σ vs ∧ tt σ2 H2 fun b H3 => if b = true then te σ2 H3 NY else NN H3
theorem lc_gen {n : Nat} {J : It} (Y : Nat → V → Prop) (A : Nat → List V → Hp → Prop) (hA : ∀ i acc H H', TupS H H' → A i acc H → A i acc H') (hn : n < sizeLine) (h0 : A 0 [] H)
    (hJ : ∀ (Pv : Nat → Hp → Prop) (Dr : Addr), (∀ i H', Pv i H' → Same H H') → Pv 0 (upd H Dr (.lst [])) →
      (∀ i x H', Y i x → Pv i H' → g x (wipe σ vs) H' fun σ2 H2 => wipe σ2 vs = wipe σ vs ∧ tt σ2 H2 fun b H3 =>
        if b = true then te σ2 H3 fun y H4 => ∃ acc, H4 Dr = some (.lst acc) ∧ acc.length < sizeLine ∧ Pv (i + 1) (upd H4 Dr (.lst (acc ++ [y]))) else Pv (i + 1) H3) →
      (∀ H', Pv n H' → Q (.ref Dr) H') → ∃ W : Nat → Nat → Hp → Prop, (∃ m, W 0 m (upd H Dr (.lst []))) ∧ ∀ i m H, W i m H →
        (J.stop i H ∧ Q (.ref Dr) H) ∨ (J.go i H ∧ ∃ Nx : Hp → Prop, (∀ H', Nx H' → ∃ m', m' < m ∧ W (i + 1) m' H') ∧ ∀ x H', J.yld i H x H' → g x (wipe σ vs) H' fun σ2 H2 => wipe σ2 vs = wipe σ vs ∧ tt σ2 H2 fun b H3 =>
          if b = true then te σ2 H3 fun y H4 => ∃ acc, H4 Dr = some (.lst acc) ∧ acc.length < sizeLine ∧ Nx (upd H4 Dr (.lst (acc ++ [y]))) else Nx H3))
    (hs : ∀ i x acc H', Y i x → Same H H' → A i acc H' → LcTurn g tt te vs σ A i x acc H')
    (hY : ∀ i x, Y i x → i < n) (hd : ∀ p acc H', H p = none → Same H H' → H' p = some (.lst acc) → A n acc H' → Q (.ref p) H') : lcK J g tt te vs σ Q H := by
  intro Dr hD
  refine hJ (fun i H' => ∃ acc, H' Dr = some (.lst acc) ∧ acc.length ≤ i ∧ Same H H' ∧ A i acc H') Dr (fun i H' ⟨_, _, _, s, _⟩ => s) ⟨[], upd_same, Nat.le_refl _, same_upd hD, hA _ _ _ _ (TupS.of (same_upd hD)) h0⟩ ?_ ?_
  · rintro i x H' hy ⟨acc, h1, h2, h3, h4⟩
    have hi := hY i x hy
    refine hs i x acc H' hy h3 h4 _ _ (fun y H4 s4 a4 => ?_) (fun H3 s3 a3 => ⟨acc, s3 _ _ h1, Nat.le_succ_of_le h2, h3.trans s3, a3⟩)
    have e4 := s4 _ _ h1
    refine ⟨acc, e4, by omega, acc ++ [y], upd_same, by rw [List.length_append]; exact Nat.add_le_add h2 (Nat.le_refl _), fun b o e => ?_, hA _ _ _ _ (TupS.upd e4 (fun _ z => by cases z)) a4⟩
    rw [upd_ne (ne_of_none e hD)]
    exact s4 _ _ (h3 _ _ e)
  · rintro H' ⟨acc, h1, h2, h3, h4⟩
    exact hd Dr acc H' hD h3 h1 h4
theorem x_lcLK (hq : SqL K H a xs) (A : Nat → List V → Hp → Prop) (hA : ∀ i acc H H', TupS H H' → A i acc H → A i acc H') (hn : xs.length < sizeLine) (h0 : A 0 [] H)
    (hs : ∀ i x acc H', xs[i]? = some x → Same H H' → A i acc H' → LcTurn g tt te vs σ A i x acc H')
    (hd : ∀ p acc H', H p = none → Same H H' → H' p = some (.lst acc) → A xs.length acc H' → Q (.ref p) H') : lcL K g tt te vs σ Q (.ref a) H :=
  ⟨a, rfl, ⟨_, hq⟩, lc_gen (fun i x => xs[i]? = some x) A hA hn h0 (fun Pv Dr hP p0 ht hd => lc_list (K := K) (a := a) (xs := xs) Pv p0 (fun i H' _ p => (hP i H' p).seq hq) ht hd) hs (fun i x h => (List.getElem?_eq_some_iff.mp h).1) hd⟩
def lcR1 (g : TG) (tt : TT) (te : TE) (vs : List Nat) (σ : L2.St) (Q : VK) : List V → Hp → Prop := fun ws H1 => ∃ j : Int, ws = [.int j] ∧ -(2 ^ 62) ≤ j ∧ j < 2 ^ 62 ∧ lcK (Itr 0 j.toNat) g tt te vs σ Q H1
theorem x_lcR1 (h : ta σ H (lcR1 g tt te vs σ Q)) : tLc (iRng1 ta) g tt te vs σ H Q := h
theorem x_lcR1K {j : Int} (A : Nat → List V → Hp → Prop) (hA : ∀ i acc H H', TupS H H' → A i acc H → A i acc H') (hn : 0 ≤ j ∧ j < 1000000) (h0 : A 0 [] H)
    (hs : ∀ i acc H', i < j.toNat → Same H H' → A i acc H' → LcTurn g tt te vs σ A i (.int i) acc H')
    (hd : ∀ p acc H', H p = none → Same H H' → H' p = some (.lst acc) → A j.toNat acc H' → Q (.ref p) H') : lcR1 g tt te vs σ Q [.int j] H :=
  ⟨j, rfl, by omega, by omega, lc_gen (fun i x => i < j.toNat ∧ x = .int i) A hA (Nat.lt_of_lt_of_le (by omega : j.toNat < 1000000) (by decide)) h0
    (fun Pv Dr hP p0 ht hd => lc_range Pv p0 (fun i H' hi p => ht i _ H' ⟨hi, by rw [Int.zero_add]⟩ p) hd) (fun i x acc H' h s a => by rw [h.2]; exact hs i acc H' h.1 s a) (fun i x h => h.1) hd⟩
def lcR2 (g : TG) (tt : TT) (te : TE) (vs : List Nat) (σ : L2.St) (Q : VK) : List V → Hp → Prop := fun ws H1 => ∃ i j : Int, ws = [.int i, .int j] ∧ (-(2 ^ 62) ≤ i ∧ i < 2 ^ 62 ∧ -(2 ^ 62) ≤ j ∧ j < 2 ^ 62) ∧ lcK (Itr i (j - i).toNat) g tt te vs σ Q H1
theorem x_lcR2 (h : ta σ H (lcR2 g tt te vs σ Q)) : tLc (iRng2 ta) g tt te vs σ H Q := h
theorem x_lcR2K {lo j : Int} (A : Nat → List V → Hp → Prop) (hA : ∀ i acc H H', TupS H H' → A i acc H → A i acc H') (hn : -1000000 ≤ lo ∧ lo ≤ j ∧ j < 1000000) (h0 : A 0 [] H)
    (hs : ∀ i acc H', i < (j - lo).toNat → Same H H' → A i acc H' → LcTurn g tt te vs σ A i (.int (lo + i)) acc H')
    (hd : ∀ p acc H', H p = none → Same H H' → H' p = some (.lst acc) → A (j - lo).toNat acc H' → Q (.ref p) H') : lcR2 g tt te vs σ Q [.int lo, .int j] H :=
  ⟨lo, j, rfl, ⟨by omega, by omega, by omega, by omega⟩, lc_gen (fun i x => i < (j - lo).toNat ∧ x = .int (lo + i)) A hA (Nat.lt_of_lt_of_le (by omega : (j - lo).toNat < 2000001) (by decide)) h0
    (fun Pv Dr hP p0 ht hd => lc_range Pv p0 (fun i H' hi p => ht i _ H' ⟨hi, rfl⟩ p) hd) (fun i x acc H' h s a => by rw [h.2]; exact hs i acc H' h.1 s a) (fun i x h => h.1) hd⟩
theorem x_yes {QB : Bool → Hp → Prop} (q : QB true H) : tYes σ H QB := q
/-! methods of built-in types -/
def bmK (K : PySem.W.Frag) (T : String) (r : V → List V → Hp → VK → Prop) (t : TA) (σ : L2.St) (Q : VK) : V → Hp → Prop := fun x H1 => tyV K T x H1 ∧ t σ H1 fun xs H2 => r x xs H2 Q
theorem x_bm {T : String} {r : V → List V → Hp → VK → Prop} {t : TA} (h : te σ H (bmK K T r t σ Q)) : tBM K T r te t σ H Q := h
theorem x_bmL {r : V → List V → Hp → VK → Prop} {t : TA} (hq : SqL K H a xs) (h : t σ H fun ws H2 => r (.ref a) ws H2 Q) : bmK K "list" r t σ Q (.ref a) H := ⟨.inl ⟨rfl, _, hq⟩, h⟩
def bm0K (K : PySem.W.Frag) (T : String) (r : V → List V → Hp → VK → Prop) (Q : VK) : V → Hp → Prop := fun x H1 => tyV K T x H1 ∧ r x [] H1 Q
theorem x_bm0 {T : String} {r : V → List V → Hp → VK → Prop} (h : te σ H (bm0K K T r Q)) : tBM0 K T r te σ H Q := h
theorem x_bm0L {r : V → List V → Hp → VK → Prop} (hq : SqL K H a xs) (h : r (.ref a) [] H Q) : bm0K K "list" r Q (.ref a) H := ⟨.inl ⟨rfl, _, hq⟩, h⟩
theorem x_append {y : V} (h : H a = some (.lst xs)) (q : Q .non (upd H a (.lst (xs ++ [y])))) (hl : xs.length < sizeLine) : rAppend (.ref a) [y] H Q := ⟨a, xs, y, rfl, rfl, h, hl, q⟩
theorem x_clear (h : H a = some (.lst xs)) (q : Q .non (upd H a (.lst []))) : rClear (.ref a) [] H Q := ⟨a, xs, rfl, rfl, h, q⟩
/-! objects -/
theorem x_mk0 {C : Addr} (h : ∀ x dx H1, H x = none → H dx = none → dx ≠ x → Same H H1 → H1 x = some (.ins C dx []) → H1 dx = some (.own x) → Q (.ref x) H1) : tMake0 C σ H Q := fun x dx n nd ne =>
  h x dx _ n nd ne ((same_upd nd).trans (same_upd (by rw [upd_ne (Ne.symm ne)]; exact n))) upd_same (by rw [upd_ne ne, upd_same])
def mkK (C : Addr) (sp : Sp) (dvs : List V) (Q : VK) (E : XK) : List V → Hp → Prop := fun vs H1 => ∀ x dx, H1 x = none → H1 dx = none → dx ≠ x →
  sp (.ref x :: (vs ++ dvs)) (upd (upd H1 dx (.own x)) x (.ins C dx [])) (fun v H2 => v = .non ∧ Q (.ref x) H2) E
theorem x_mkS {C : Addr} {sp : Sp} {dvs : List V} {E : L2.St → XK} {t : TA} (h : t σ H (mkK C sp dvs Q (E σ))) : tMakeS C sp dvs E t σ H Q := h
theorem x_mkK {C : Addr} {sp : Sp} {dvs ws : List V} {E : XK} (h : ∀ x dx H1, H x = none → H dx = none → dx ≠ x → Same H H1 → H1 x = some (.ins C dx []) → H1 dx = some (.own x) → sp (.ref x :: (ws ++ dvs)) H1 (fun v H2 => v = .non ∧ Q (.ref x) H2) E) :
    mkK C sp dvs Q E ws H := fun x dx n nd ne => h x dx _ n nd ne ((same_upd nd).trans (same_upd (by rw [upd_ne (Ne.symm ne)]; exact n))) upd_same (by rw [upd_ne ne, upd_same])
theorem x_methD {P : Program} {w : World} {mg : Str → Option Value} {base : Heap} {CX : CXT} {n : Nat} {m : Str} {E : L2.St → XK} {t : TA} (h : te σ H (mtK P w K mg base CX n m (E σ) σ t Q)) : tMethD P w K mg base CX n m E te t σ H Q := h
theorem x_mtK {P : Program} {w : World} {mg : Str → Option Value} {base : Heap} {CX : CXT} {n : Nat} {m : Str} {E : XK} {t : TA} {C dx : Addr} {fs : List (Str × V)} {sp : Sp} (ho : H a = some (.ins C dx fs)) (hm : MO P w K mg base CX n C m sp) (hl : fs.lookup m = none)
    (h : t σ H fun vs H2 => sp (.ref a :: vs) H2 Q E) : mtK P w K mg base CX n m E σ t Q (.ref a) H := ⟨a, C, dx, fs, sp, rfl, ho, hl, hm, h⟩
def fldK (K : PySem.W.Frag) (f : Str) (Q : VK) : V → Hp → Prop := fun x H1 => ∃ a C dx fs v, x = .ref a ∧ H1 a = some (.ins C dx fs) ∧ Cls K C ∧ NoAttr K C f ∧ fs.lookup f = some v ∧ Q v H1
theorem x_fld {f : Str} (h : te σ H (fldK K f Q)) : tFld K te f σ H Q := h
theorem x_fldK {f : Str} {C dx : Addr} {fs : List (Str × V)} {v : V} (ho : H a = some (.ins C dx fs)) (hl : fs.lookup f = some v) (q : Q v H) (hc : Cls K C) (hn : NoAttr K C f) : fldK K f Q (.ref a) H := ⟨a, C, dx, fs, v, rfl, ho, hc, hn, hl, q⟩
def sfK (K : PySem.W.Frag) (f : Str) (y : V) (D : Ends) (σ : L2.St) : V → Hp → Prop := fun x H2 => ∃ a C dx fs, x = .ref a ∧ H2 a = some (.ins C dx fs) ∧ Cls K C ∧ NoAttr K C f ∧ fs.length < 1000 ∧ D.nx σ (upd H2 a (.ins C dx (putF f y fs)))
theorem x_sfld {f : Str} (h : te σ H fun y H1 => tl σ H1 (sfK K f y D σ)) : sFld K tl te f D σ H := h
theorem x_sfK {f : Str} {C dx : Addr} {fs fs' : List (Str × V)} {y : V} (ho : H a = some (.ins C dx fs)) (hf : putF f y fs = fs') (q : D.nx σ (upd H a (.ins C dx fs'))) (hc : Cls K C) (hn : NoAttr K C f) (hl : fs.length < 1000) : sfK K f y D σ (.ref a) H :=
  ⟨a, C, dx, fs, rfl, ho, hc, hn, hl, by rw [hf]; exact q⟩
end
theorem _root_.L2.FunD.okX {P : Program} {w : World} {K : PySem.W.Frag} {mg : Str → Option Value} {base : Heap} {x qual : Str} {st : Stmt} {f : Addr} {fd : FuncData} {dvs : List V} {kws : List (Str × V)} {N ps : List Str} {k : Nat} {sp : Sp}
    (F : FunD K x qual (defArgs st) (defBody st) (defScope st) dvs kws f fd) (S : FnScope N ps (defScope st)) (len : ∀ vs H Q E, sp vs H Q E → vs.length = ps.length)
    (hbody : ∀ (cdv : Value) (A : Around) (outer : List Env) (s : Shared) (H : Hp) (vs : List V) (Q : VK) (E : XK), Room k (A.deeper (envOfC qual (defScope st) s.heap.objs.size f cdv)) → sp vs H Q E →
      ∃ t, PSs (cxOf (L2.CX P w) P w K mg base N qual (defScope st) f cdv A outer s H E) (defBody st) t ∧ t { nx := fun _ H' => Q .non H', rt := Q } (start N vs) H) : FnOk P w K mg base (L2.CX P w) (k + 1) f fd ps sp := F.ok S len hbody
/-! ### fields added to, while, is, in -/
section
variable {σ : L2.St} {H : Hp} {K : PySem.W.Frag} {D : Ends} {ta tv te : TE} {tb : TS} {tc : TT} {a : Addr} {Q : VK} {x y : V} {f : Str} {rd : V → V → Hp → VK → Prop}
/-- all but what stands at S stays -/
def Off (S : List Addr) (H H' : Hp) : Prop := ∀ b o, b ∉ S → H b = some o → H' b = some o
theorem Off.refl {S : List Addr} : Off S H H := fun _ _ _ h => h
theorem Off.of {S : List Addr} {H' : Hp} (s : Same H H') : Off S H H' := fun b o _ h => s b o h
theorem Off.trans {S : List Addr} {H1 H2 : Hp} (h1 : Off S H H1) (h2 : Off S H1 H2) : Off S H H2 := fun b o n h => h2 b o n (h1 b o n h)
theorem Off.sub {S S' : List Addr} {H' : Hp} (h : Off S H H') (hs : ∀ b, b ∈ S → b ∈ S') : Off S' H H' := fun b o n e => h b o (fun m => n (hs b m)) e
theorem Off.same {S : List Addr} {H1 H2 : Hp} (s : Same H H1) (h : Off S H1 H2) (n : ∀ b, b ∈ S → H b = none) : Same H H2 := fun b o e => h b o (fun m => by rw [n b m] at e; cases e) (s b o e)
theorem same_none {H' : Hp} {b : Addr} (s : Same H H') (h : H' b = none) : H b = none := by
  cases e : H b with
  | none => rfl
  | some o => rw [s _ _ e] at h; cases h
theorem Off.same1 {H1 H2 : Hp} (s : Same H H1) (h : Off [a] H1 H2) (n : H a = none) : Same H H2 := h.same s fun b hb => by rw [List.mem_singleton] at hb; rw [hb]; exact n
theorem Off.at {S : List Addr} {H1 : Hp} {b : Addr} {o : HO} (h : Off S H H1) (e : H b = some o) (n : b ∉ S) : H1 b = some o := h b o n e
theorem Off.upd {S : List Addr} {o : HO} (h : a ∈ S) : Off S H (upd H a o) := fun b u n e => by
  rw [upd_ne (fun z => n (by rw [z]; exact h))]; exact e
theorem Off.lst {r : Addr} {H H' : Hp} {C dx : Addr} {fs : List (Str × V)} {a : Addr} {xs : List V} (s : Off [r] H H') (hr : H r = some (.ins C dx fs)) (h : H a = some (.lst xs)) : H' a = some (.lst xs) := s a _ (fun m => by
  rw [List.mem_singleton] at m; subst m; rw [hr] at h; cases h) h
theorem Off.tup {r : Addr} {H H' : Hp} {C dx : Addr} {fs : List (Str × V)} {a : Addr} {xs : List V} (s : Off [r] H H') (hr : H r = some (.ins C dx fs)) (h : H a = some (.tup xs)) : H' a = some (.tup xs) := s a _ (fun m => by
  rw [List.mem_singleton] at m; subst m; rw [hr] at h; cases h) h
theorem Off.ins {r : Addr} {H H' : Hp} {a : Addr} {o : HO} (s : Off [r] H H') (hne : a ≠ r) (h : H a = some o) : H' a = some o := s a _ (fun m => hne (List.mem_singleton.mp m)) h
theorem Off.tups {r : Addr} {H H' : Hp} {C dx : Addr} {fs : List (Str × V)} (s : Off [r] H H') (hr : H r = some (.ins C dx fs)) : TupS H H' := fun a xs h => s.tup hr h
def f3K (a C : Addr) (f : Str) (D : Ends) (σ : L2.St) : VK := fun z H3 => ∃ dx' fs', H3 a = some (.ins C dx' fs') ∧ fs'.length < 1000 ∧ D.nx σ (upd H3 a (.ins C dx' (putF f z fs')))
def faK (K : PySem.W.Frag) (tv : TE) (rd : V → V → Hp → VK → Prop) (f : Str) (D : Ends) (σ : L2.St) : V → Hp → Prop := fun x H1 => ∃ a C dx fs v, x = .ref a ∧ H1 a = some (.ins C dx fs) ∧ Cls K C ∧ NoAttr K C f ∧ fs.lookup f = some v ∧
  tv σ H1 fun y H2 => rd v y H2 (f3K a C f D σ)
theorem x_fldAug (h : ta σ H (faK K tv rd f D σ)) : sFldAug K ta tv rd f D σ H := h
theorem x_faK {C dx : Addr} {fs : List (Str × V)} {v : V} (ho : H a = some (.ins C dx fs)) (hl : fs.lookup f = some v) (q : tv σ H fun y H2 => rd v y H2 (f3K a C f D σ)) (hc : Cls K C) (hn : NoAttr K C f) : faK K tv rd f D σ (.ref a) H := ⟨a, C, dx, fs, v, rfl, ho, hc, hn, hl, q⟩
theorem x_f3K {C dx : Addr} {fs fs' : List (Str × V)} {z : V} (ho : H a = some (.ins C dx fs)) (hf : putF f z fs = fs') (q : D.nx σ (upd H a (.ins C dx fs'))) (hl : fs.length < 1000) : f3K a C f D σ z H := ⟨dx, fs, ho, hl, by rw [hf]; exact q⟩
theorem putF_new {f : Str} {y : V} : ∀ {fs : List (Str × V)}, fs.lookup f = none → putF f y fs = fs ++ [(f, y)]
  | [], _ => rfl
  | (g, x) :: r, h => by
    rw [List.lookup_cons] at h
    by_cases e : f = g
    · subst e; simp at h
    · rw [show (f == g) = false from beq_eq_false_iff_ne.mpr e] at h
      show (if g = f then _ else _) = _
      rw [if_neg (Ne.symm e), putF_new h]
      rfl
/-- self.f = y, f new -/
theorem x_sfN {C dx : Addr} {fs : List (Str × V)} (ho : H a = some (.ins C dx fs)) (hf : fs.lookup f = none) (q : ∀ H1, Off [a] H H1 → H1 a = some (.ins C dx (fs ++ [(f, y)])) → D.nx σ H1) (hc : Cls K C) (hn : NoAttr K C f) (hl : fs.length < 1000) : sfK K f y D σ (.ref a) H :=
  ⟨a, C, dx, fs, rfl, ho, hc, hn, hl, by rw [putF_new hf]; exact q _ (Off.upd (List.mem_singleton.mpr rfl)) upd_same⟩
/-- self.f = y, f there -/
theorem x_sfO {C dx : Addr} {fs fs' : List (Str × V)} (ho : H a = some (.ins C dx fs)) (hf : putF f y fs = fs') (q : ∀ H1, Off [a] H H1 → H1 a = some (.ins C dx fs') → D.nx σ H1) (hc : Cls K C) (hn : NoAttr K C f) (hl : fs.length < 1000) : sfK K f y D σ (.ref a) H :=
  ⟨a, C, dx, fs, rfl, ho, hc, hn, hl, by rw [hf]; exact q _ (Off.upd (List.mem_singleton.mpr rfl)) upd_same⟩
theorem x_gsub {to ti : TE} {t : TSet} {v : V} {QS : L2.St → Hp → Prop} (h : to σ H fun o H1 => ti σ H1 fun i H2 => t o i v H2 fun H3 => QS σ H3) : gSub to ti t v σ H QS := h
theorem x_setL {xs : List V} {k : Int} {v : V} {QS : Hp → Prop} (hp : H a = some (.lst xs)) (q : ∀ H1, Off [a] H H1 → H1 a = some (.lst (xs.set k.toNat v)) → QS H1) (h0 : 0 ≤ k) (h1 : k < xs.length) : rSetL (.ref a) (.int k) v H QS :=
  ⟨a, xs, k, k.toNat, rfl, rfl, hp, by unfold ixN; rw [if_pos h0, if_pos h1], q _ (Off.upd (List.mem_singleton.mpr rfl)) upd_same⟩
/-- xs[i] of an augmented store -/
def rGetL (K : PySem.W.Frag) : V → V → Hp → VK → Prop := fun o i H Q => ∃ p xs k v, o = .ref p ∧ i = .int k ∧ SqL K H p xs ∧ 0 ≤ k ∧ xs[k.toNat]? = some v ∧ Q v H
theorem get_list {X : Cx} : PGet X (rGetL X.K) := by
  intro pins s σ H o i ov iv Q I ro ri h
  obtain ⟨p, xs, k, v, rfl, rfl, hq, h0, he, q⟩ := h
  cases ro
  obtain ⟨t, rfl⟩ := ri
  obtain ⟨its, r, pl, hz⟩ := I.list hq
  obtain ⟨w, ew, rw'⟩ := r.get he
  have hl := r.length
  have hn := line63
  have hlt := (List.getElem?_eq_some_iff.mp he).1
  exact wpAny_getItem_list pl.isList h0 (by omega) (by simpa using ew) ⟨v, H, I, rw', q⟩
theorem x_augS {to ti te : TE} {tget : V → V → Hp → VK → Prop} {tip : TIp} {tset : TSet} (h : to σ H fun o H1 => ti σ H1 fun i H2 => tget o i H2 fun x H3 => te σ H3 fun y H4 => tip x y H4 fun z H5 => tset o i z H5 fun H6 => D.nx σ H6) : tAugS to ti te tget tip tset D σ H := h
theorem x_seqAS {to ti te : TE} {tget : V → V → Hp → VK → Prop} {tip : TIp} {tset : TSet} {u : TS} (h : tAugS to ti te tget tip tset { D with nx := u D } σ H) : tSeq (tAugS to ti te tget tip tset) u D σ H := h
theorem x_getL {xs : List V} {k : Int} (h : SqL K H a xs) (q : Q (xs.getD k.toNat .non) H) (h0 : 0 ≤ k) (h1 : k < xs.length) : rGetL K (.ref a) (.int k) H Q := ⟨a, xs, k, _, rfl, rfl, h, h0, by
  have hn : k.toNat < xs.length := by omega
  simp [hn], q⟩
theorem x_getI {ns : List Int} {k : Int} (h : SqL K H a (ns.map V.int)) (q : Q (.int (ns.getD k.toNat 0)) H) (h0 : 0 ≤ k) (h1 : k < ns.length) : rGetL K (.ref a) (.int k) H Q := ⟨a, _, k, _, rfl, rfl, h, h0, by
  have hn : k.toNat < ns.length := by omega
  simp [hn], q⟩
theorem x_rSub {m n : Int} (q : Q (.int (m - n)) H) : rSub (.int m) (.int n) H Q := ⟨m, n, rfl, rfl, q⟩
/-- == and != of scalars of any kinds -/
theorem x_eqSc (h : scal x y = true) (q : Q (.bl (decide (x = y))) H) : uEq K x y H Q := .inl ⟨h, q⟩
theorem x_neSc (h : scal x y = true) (q : Q (.bl (!decide (x = y))) H) : uNe K x y H Q := .inl ⟨h, q⟩
/-- xs[i] by values that are named otherwise -/
theorem x_ixF {α : Type} {l : List α} {g : α → V} {k : Int} (d : α) (h : SqL K H a (l.map g)) (q : Q (g (l.getD k.toNat d)) H) (h0 : 0 ≤ k) (h1 : k < l.length) : rIx K (.ref a) (.int k) H Q := by
  have hn : k.toNat < l.length := by omega
  refine x_ixL h ?_ h0 (by rw [List.length_map]; exact h1)
  rw [show (l.map g).getD k.toNat .non = g (l.getD k.toNat d) by simp [hn]]
  exact q
theorem x_f3O {C dx : Addr} {fs fs' : List (Str × V)} {z : V} (ho : H a = some (.ins C dx fs)) (hf : putF f z fs = fs') (q : ∀ H1, Off [a] H H1 → H1 a = some (.ins C dx fs') → D.nx σ H1) (hl : fs.length < 1000) : f3K a C f D σ z H := ⟨dx, fs, ho, hl, by rw [hf]; exact q _ (Off.upd (List.mem_singleton.mpr rfl)) upd_same⟩
theorem nin_of {b : Addr} (h : b ≠ a) : b ∉ [a] := fun z => h (List.mem_singleton.mp z)
theorem x_appO {xs : List V} (h : H a = some (.lst xs)) (q : ∀ H1, Off [a] H H1 → H1 a = some (.lst (xs ++ [y])) → Q .non H1) (hl : xs.length < sizeLine) : rAppend (.ref a) [y] H Q := ⟨a, xs, y, rfl, rfl, h, hl, q _ (Off.upd (List.mem_singleton.mpr rfl)) upd_same⟩
theorem str_len {n : Int} (h0 : 0 ≤ n) (h1 : n < 300) : (Str.ofString (toString n)).length ≤ 20 := by
  have k : ∀ m : Nat, m < 300 → (Str.ofString (toString (m : Int))).length ≤ 20 := by decide +kernel
  have := k n.toNat (by omega)
  rwa [show ((n.toNat : Nat) : Int) = n by omega] at this
theorem small_log {n : Int} (h0 : 0 ≤ n) (h1 : n < 1000000) : n.natAbs.log2 < 1920 := by
  by_cases e : n.natAbs = 0
  · rw [e]; decide
  · exact (Nat.log2_lt e).mpr (Nat.lt_of_lt_of_le (show n.natAbs < 2 ^ 20 by omega) (Nat.pow_le_pow_right (by decide) (by decide)))
theorem x_ixB {bs : List Bool} {k : Int} (h : SqL K H a (bs.map V.bl)) (q : Q (.bl (bs.getD k.toNat false)) H) (h0 : 0 ≤ k) (h1 : k < bs.length) : rIx K (.ref a) (.int k) H Q := x_ixF false h q h0 h1
theorem off_none {r b : Addr} {H1 : Hp} (h : Off [r] H H1) (n : H1 b = none) (hne : b ≠ r) : H b = none := by
  cases e : H b with
  | none => rfl
  | some o => rw [h.at e (nin_of hne)] at n; cases n
theorem x_clearO {xs : List V} (h : H a = some (.lst xs)) (q : ∀ H1, Off [a] H H1 → H1 a = some (.lst []) → Q .non H1) : rClear (.ref a) [] H Q := ⟨a, xs, rfl, rfl, h, q _ (Off.upd (List.mem_singleton.mpr rfl)) upd_same⟩
theorem line_len {n : Nat} (h : n ≤ 1000) : n ≤ sizeLine := Nat.le_trans h (by decide)
/-- or of two tests that only look -/
theorem x_orK {t u : TT} {QB : Bool → Hp → Prop} {b1 b2 : Bool} (h1 : ∀ QB : Bool → Hp → Prop, QB b1 H → t σ H QB) (h2 : ∀ QB : Bool → Hp → Prop, QB b2 H → u σ H QB) (q : QB (b1 || b2) H) : tOr t u σ H QB := by
  refine x_or (h1 _ ?_)
  cases b1 with
  | true => exact q
  | false => exact h2 _ q
theorem x_rAdd {m n : Int} (q : Q (.int (m + n)) H) : rAdd (.int m) (.int n) H Q := ⟨m, n, rfl, rfl, q⟩
theorem x_aug {i : Nat} {ti : TIp} (h : σ[i]? = some (some x)) (q : te σ H fun y H1 => ti x y H1 fun z H2 => D.nx (σ.set i (some z)) H2) : tAug i te ti D σ H := ⟨x, h, q⟩
theorem x_ipI {g : Int → Int → Int} {m n : Int} (q : Q (.int (g m n)) H) : ipI g (.int m) (.int n) H Q := ⟨m, n, rfl, rfl, q⟩
def whK (W : Nat → L2.St → Hp → Prop) (tb : TS) (D : Ends) (m : Nat) (σ : L2.St) : Bool → Hp → Prop := fun b H1 => if b = true then ∃ N : L2.St → Hp → Prop, (∀ σ' H', N σ' H' → ∃ m', m' < m ∧ W m' σ' H') ∧ tb { D with nx := N, ct := N, bk := D.nx } σ H1 else D.nx σ H1
theorem x_whl (W : Nat → L2.St → Hp → Prop) (m : Nat) (h0 : W m σ H) (hs : ∀ m σ H, W m σ H → tc σ H (whK W tb D m σ)) : tWhile tc tb D σ H := ⟨W, ⟨m, h0⟩, hs⟩
theorem x_whD {W : Nat → L2.St → Hp → Prop} {m : Nat} {p : Prop} [Decidable p] (h1 : p → ∀ N : L2.St → Hp → Prop, (∀ m' σ' H', m' < m → W m' σ' H' → N σ' H') → tb { D with nx := N, ct := N, bk := D.nx } σ H) (h2 : ¬ p → D.nx σ H) : whK W tb D m σ (decide p) H := by
  unfold whK
  refine x_iteD (fun h => ?_) h2
  exact ⟨fun σ' H' => ∃ m', m' < m ∧ W m' σ' H', fun _ _ n => n, h1 h _ fun m' σ' H' l w => ⟨m', l, w⟩⟩
theorem x_isN (q : Q (.bl (decide (x = .non))) H) : uIs x .non H Q := .inl ⟨rfl, q⟩
theorem x_isNotN (q : Q (.bl (!decide (x = .non))) H) : uIsNot x .non H Q := .inl ⟨rfl, q⟩
theorem x_isB {b c : Bool} (q : Q (.bl (decide (b = c))) H) : uIs (.bl b) (.bl c) H Q := .inr ⟨b, c, rfl, rfl, q⟩
theorem x_isNotB {b c : Bool} (q : Q (.bl (!decide (b = c))) H) : uIsNot (.bl b) (.bl c) H Q := .inr ⟨b, c, rfl, rfl, q⟩
theorem inV_int (n : Int) (ns : List Int) : inV (.int n) (ns.map V.int) = decide (n ∈ ns) := by
  unfold inV
  induction ns with
  | nil => rfl
  | cons m ns ih =>
    rw [List.map_cons, List.any_cons, ih]
    have e : eqV (.int m) (.int n) = decide (n = m) := by
      show (m == n) = _
      rw [Bool.eq_iff_iff, beq_iff_eq, decide_eq_true_iff]
      exact ⟨Eq.symm, Eq.symm⟩
    rw [e, ← Bool.decide_or, decide_eq_decide, List.mem_cons]
theorem flat_ints (ns : List Int) : (ns.map V.int).all flatV = true := by
  rw [List.all_eq_true]
  intro x h
  obtain ⟨n, _, rfl⟩ := List.mem_map.mp h
  rfl
theorem x_inI {n : Int} {ns : List Int} (h : SqL K H a (ns.map V.int)) (q : Q (.bl (decide (n ∈ ns))) H) : uIn K (.int n) (.ref a) H Q := ⟨a, _, rfl, .inl h, rfl, flat_ints ns, by rw [inV_int] <;> exact q⟩
theorem x_notInI {n : Int} {ns : List Int} (h : SqL K H a (ns.map V.int)) (q : Q (.bl (!decide (n ∈ ns))) H) : uNotIn K (.int n) (.ref a) H Q := ⟨a, _, rfl, .inl h, rfl, flat_ints ns, by rw [inV_int] <;> exact q⟩
end
/-! ### dicts of text keys -/
section
variable {σ : L2.St} {H : Hp} {K : PySem.W.Frag} {D : Ends} {td ty tv : TE} {a : Addr} {Q : VK} {x v : V} {z : Str} {kvs kvs' : List (L2.Key × V)}
def dgK (x : V) (Q : VK) : V → Hp → Prop := fun y H2 => ∃ a v, x = .ref a ∧ DGet H2 a y (some v) ∧ Q v H2
theorem x_dget (h : td σ H fun x H1 => ty σ H1 (dgK x Q)) : tDGet td ty σ H Q := h
theorem x_dgS (h : H a = some (.dK kvs)) (hv : valV kvs (.inr z) = some v) (q : Q v H) : dgK (.ref a) Q (.str z) H := ⟨a, v, rfl, by rw [← hv]; exact DGet.k (k := .inr z) h, q⟩
theorem x_dgI {n : Int} (h : H a = some (.dK kvs)) (hv : valV kvs (.inl n) = some v) (q : Q v H) : dgK (.ref a) Q (.int n) H := ⟨a, v, rfl, by rw [← hv]; exact DGet.k (k := .inl n) h, q⟩
def dpK (x v : V) (D : Ends) (σ : L2.St) : V → Hp → Prop := fun y H3 => ∃ a H4, x = .ref a ∧ DPut H3 a y v H4 ∧ D.nx σ H4
theorem x_dput (h : tv σ H fun v H1 => td σ H1 fun x H2 => ty σ H2 (dpK x v D σ)) : sDPut td ty tv D σ H := h
theorem x_seqDP {u : TS} (h : sDPut td ty tv { D with nx := u D } σ H) : tSeq (sDPut td ty tv) u D σ H := h
theorem x_dpS (h : H a = some (.dK kvs)) (hk : putK kvs (.inr z) v = kvs') (q : ∀ H1, Off [a] H H1 → H1 a = some (.dK kvs') → D.nx σ H1) (hl : kvs.length ≤ 1000) : dpK (.ref a) v D σ (.str z) H :=
  ⟨a, _, rfl, DPut.k (k := .inr z) h (Nat.lt_of_le_of_lt hl (by decide)), by rw [hk]; exact q _ (Off.upd (List.mem_singleton.mpr rfl)) upd_same⟩
theorem x_dpI {n : Int} (h : H a = some (.dK kvs)) (hk : putK kvs (.inl n) v = kvs') (q : ∀ H1, Off [a] H H1 → H1 a = some (.dK kvs') → D.nx σ H1) (hl : kvs.length ≤ 1000) : dpK (.ref a) v D σ (.int n) H :=
  ⟨a, _, rfl, DPut.k (k := .inl n) h (Nat.lt_of_le_of_lt hl (by decide)), by rw [hk]; exact q _ (Off.upd (List.mem_singleton.mpr rfl)) upd_same⟩
/-- {k: v, ..} -/
def dspK (p : Addr) (Q : VK) : List (V × V) → Hp → Prop := fun ps H2 => H2 p = some (.dK []) ∧ ∃ kvs : List (L2.Key × V), ps = kvs.map (fun kv => (kV kv.1, kv.2)) ∧ kvs.length ≤ 15 ∧ Q (.ref p) (upd H2 p (.dK (mergeK [] kvs)))
theorem x_disp {trs : List (TE × TE)} (h : ∀ p H1, H p = none → Same H H1 → H1 p = some (.dK []) → tPairs trs σ H1 (dspK p Q)) : tDisp trs σ H Q := fun p hp => h p _ hp (same_upd hp) upd_same
theorem x_prN {QP : List (V × V) → Hp → Prop} (q : QP [] H) : tPairs [] σ H QP := q
theorem x_prC {tk tv : TE} {r : List (TE × TE)} {QP : List (V × V) → Hp → Prop} (q : tk σ H fun x H1 => tv σ H1 fun y H2 => tPairs r σ H2 fun ps H3 => QP ((x, y) :: ps) H3) : tPairs ((tk, tv) :: r) σ H QP := q
theorem x_dspK {ps : List (V × V)} (kvs : List (L2.Key × V)) (h : H a = some (.dK [])) (e : ps = kvs.map (fun kv => (kV kv.1, kv.2))) (hl : kvs.length ≤ 15) (hm : mergeK [] kvs = kvs') (q : ∀ H1, Off [a] H H1 → H1 a = some (.dK kvs') → Q (.ref a) H1) : dspK a Q ps H :=
  ⟨h, kvs, e, hl, by rw [hm]; exact q _ (Off.upd (List.mem_singleton.mpr rfl)) upd_same⟩
theorem x_dnew (h : ∀ p H1, H p = none → Same H H1 → H1 p = some (.dK []) → Q (.ref p) H1) : tDNewK σ H Q := fun p hp => h p _ hp (same_upd hp) upd_same
/-! k in d, d.get(k), d.get(k, x), d.setdefault(k, x), d.pop(k), d.pop(k, x) -/
def dinK (y : V) (Q : VK) : V → Hp → Prop := fun x H2 => ∃ a o, x = .ref a ∧ DGet H2 a y o ∧ Q (.bl o.isSome) H2
theorem x_din (h : ty σ H fun y H1 => td σ H1 (dinK y Q)) : tDIn ty td σ H Q := h
theorem x_dinI {n : Int} (h : H a = some (.dK kvs)) (q : Q (.bl (valV kvs (.inl n)).isSome) H) : dinK (.int n) Q (.ref a) H := ⟨a, _, rfl, DGet.k (k := .inl n) h, q⟩
def dg1E (a : Addr) (Q : VK) : V → Hp → Prop := fun y H2 => ∃ o, DGet H2 a y o ∧ Q (o.getD .non) H2
def dg1K (ty : TE) (Q : VK) (σ : L2.St) : V → Hp → Prop := fun x H1 => ∃ a, x = .ref a ∧ IsD H1 a ∧ ty σ H1 (dg1E a Q)
theorem x_dget1 (h : td σ H (dg1K ty Q σ)) : tDGet1 td ty σ H Q := h
theorem x_dg1K (h : H a = some (.dK kvs)) (q : ty σ H (dg1E a Q)) : dg1K ty Q σ (.ref a) H := ⟨a, rfl, .inl ⟨kvs, .inl h⟩, q⟩
theorem x_dg1I {n : Int} (h : H a = some (.dK kvs)) (q : Q ((valV kvs (.inl n)).getD .non) H) : dg1E a Q (.int n) H := ⟨_, DGet.k (k := .inl n) h, q⟩
def dsE (a : Addr) (Q : VK) (y : V) : V → Hp → Prop := fun z H3 => ∃ (kvs : List (L2.Key × V)) (k : L2.Key), H3 a = some (.dK kvs) ∧ y = kV k ∧ kvs.length < sizeLine ∧ (∀ v, valV kvs k = some v → Q v H3) ∧ (valV kvs k = none → Q z (L2.upd H3 a (.dK (putK kvs k z))))
def dsK (ty tx : TE) (Q : VK) (σ : L2.St) : V → Hp → Prop := fun x H1 => ∃ a, x = .ref a ∧ IsD H1 a ∧ ty σ H1 fun y H2 => tx σ H2 (dsE a Q y)
theorem x_dsetd {tx : TE} (h : td σ H (dsK ty tx Q σ)) : tDSetd td ty tx σ H Q := h
theorem x_dsK {tx : TE} (h : H a = some (.dK kvs)) (q : ty σ H fun y H2 => tx σ H2 (dsE a Q y)) : dsK ty tx Q σ (.ref a) H := ⟨a, rfl, .inl ⟨kvs, .inl h⟩, q⟩
theorem x_dsI {n : Int} (h : H a = some (.dK kvs)) (hl : kvs.length ≤ 1000) (q1 : ∀ u, valV kvs (.inl n) = some u → Q u H) (q2 : valV kvs (.inl n) = none → ∀ H1, Off [a] H H1 → H1 a = some (.dK (putK kvs (.inl n) v)) → Q v H1) : dsE a Q (.int n) v H :=
  ⟨kvs, .inl n, h, rfl, Nat.lt_of_le_of_lt hl (by decide), q1, fun hn => q2 hn _ (Off.upd (List.mem_singleton.mpr rfl)) upd_same⟩
def dpp1E (a : Addr) (Q : VK) : V → Hp → Prop := fun y H2 => ∃ kvs k v, H2 a = some (.dK kvs) ∧ y = kV k ∧ valV kvs k = some v ∧ Q v (L2.upd H2 a (.dK (dropK kvs k)))
def dpp1K (ty : TE) (Q : VK) (σ : L2.St) : V → Hp → Prop := fun x H1 => ∃ a, x = .ref a ∧ IsD H1 a ∧ ty σ H1 (dpp1E a Q)
theorem x_dpop1 (h : td σ H (dpp1K ty Q σ)) : tDPop1 td ty σ H Q := h
theorem x_dpp1K (h : H a = some (.dK kvs)) (q : ty σ H (dpp1E a Q)) : dpp1K ty Q σ (.ref a) H := ⟨a, rfl, .inl ⟨kvs, .inl h⟩, q⟩
theorem x_dpp1I {n : Int} (h : H a = some (.dK kvs)) (hv : valV kvs (.inl n) = some v) (q : ∀ H1, Off [a] H H1 → H1 a = some (.dK (dropK kvs (.inl n))) → Q v H1) : dpp1E a Q (.int n) H := ⟨kvs, .inl n, v, h, rfl, hv, q _ (Off.upd (List.mem_singleton.mpr rfl)) upd_same⟩
def dpp2E (a : Addr) (Q : VK) (y : V) : V → Hp → Prop := fun z H3 => ∃ kvs k, H3 a = some (.dK kvs) ∧ y = kV k ∧ (∀ v, valV kvs k = some v → Q v (L2.upd H3 a (.dK (dropK kvs k)))) ∧ (valV kvs k = none → Q z H3)
def dpp2K (ty tx : TE) (Q : VK) (σ : L2.St) : V → Hp → Prop := fun x H1 => ∃ a, x = .ref a ∧ IsD H1 a ∧ ty σ H1 fun y H2 => tx σ H2 (dpp2E a Q y)
theorem x_dpop2 {tx : TE} (h : td σ H (dpp2K ty tx Q σ)) : tDPop2 td ty tx σ H Q := h
theorem x_dpp2K {tx : TE} (h : H a = some (.dK kvs)) (q : ty σ H fun y H2 => tx σ H2 (dpp2E a Q y)) : dpp2K ty tx Q σ (.ref a) H := ⟨a, rfl, .inl ⟨kvs, .inl h⟩, q⟩
theorem x_dpp2I {n : Int} (h : H a = some (.dK kvs)) (q1 : ∀ u, valV kvs (.inl n) = some u → ∀ H1, Off [a] H H1 → H1 a = some (.dK (dropK kvs (.inl n))) → Q u H1) (q2 : valV kvs (.inl n) = none → Q v H) : dpp2E a Q (.int n) v H :=
  ⟨kvs, .inl n, h, rfl, fun u hu => q1 u hu _ (Off.upd (List.mem_singleton.mpr rfl)) upd_same, q2⟩
/-- what a dict of whole numbers tells behind a new pair -/
theorem valV_put_self {kvs : List (L2.Key × V)} {k : L2.Key} (hn : valV kvs k = none) : putK kvs k v = kvs ++ [(k, v)] := by
  unfold putK
  rw [valV_any, hn]
  rfl
end
/-! ### exceptions -/
section
variable {X : Cx} {K : PySem.W.Frag} {W Wout : WX} {D : Ends} {σ : L2.St} {H : Hp} {cls c : Value} {d : Option Addr} {a C fI : Addr} {Q : VK}
/-- an exception class without an own __init__ -/
structure XC (K : PySem.W.Frag) (C : Addr) : Prop where
  q : PySem.W.excIn K C [.type "ValueError", .type "Exception", .type "BaseException", .type "object"] "ValueError.__new__" = true
  k : PySem.W.keepIn K (.ref C) = true
  r : PySem.W.subIn K (.ref C) (.type "BaseException") = some true
  t : PySem.W.typeIn K (.ref C) = some (.type "type")
/-- one with an own __init__ -/
structure XI (K : PySem.W.Frag) (C fI : Addr) : Prop where
  o : OexC K C
  i : PySem.W.findIn K (.ref C) "__init__" = some (some (.ref fI))
  t : PySem.W.typeIn K (.ref fI) = some (.type "function")
  f : XfC K C
def tRaise (t : L2.St → Hp → XK → Prop) (W : WX) : TS := fun _ σ H => t σ H fun cls d H' => W cls d σ H'
theorem ps_raiseK {e : Expr} {t : L2.St → Hp → XK → Prop} {pos : Pos} (hc : X.calm = true) (tk : Takes X W) (he : PMk X e t) : PS X (.Raise (some e) none pos) (tRaise t W) := ps_raise hc tk he
def tMkE (C : Addr) : L2.St → Hp → XK → Prop := fun _ H Q => Q (.ref C) none H
theorem pmk_ownK {x m : Str} {j : Nat} {p p2 pos : Pos} (T : XC X.K C) (gC : X.mg x = some (.ref C)) (hg : Gl X x) (hdb : (x == ("__debug__" : Str)) = false := by decide) : PMk X (.Call (.Name x p) [.Constant (.str m) j p2] [] pos) (tMkE C) :=
  pmk_own PySem.F.excBase_ValueError T.q gC T.k (raises_own T.r T.t) hg hdb
theorem x_raise {t : L2.St → Hp → XK → Prop} (h : t σ H fun cls d H' => W cls d σ H') : tRaise t W D σ H := h
theorem x_seqR {t : L2.St → Hp → XK → Prop} {u : TS} (h : tRaise t W { D with nx := u D } σ H) : tSeq (tRaise t W) u D σ H := h
theorem x_mkE {Q : XK} (q : Q (.ref C) none H) : tMkE C σ H Q := q
def tTry1 (K : PySem.W.Frag) (c : Value) (tb : WX → TS) (ts : Addr → Value → Option Addr → TS) (Wout : WX) : TS := fun D σ H => tb (wOnly K c ts Wout D) D σ H
theorem x_try1 {tb : WX → TS} {ts : Addr → Value → Option Addr → TS} (h : tb (wOnly K c ts Wout D) D σ H) : tTry1 K c tb ts Wout D σ H := h
theorem x_seqT1 {tb : WX → TS} {ts : Addr → Value → Option Addr → TS} {u : TS} (h : tTry1 K c tb ts Wout { D with nx := u D } σ H) : tSeq (tTry1 K c tb ts Wout) u D σ H := h
theorem ps_try1 {x : Str} {body suite : List Stmt} {b₀ : Stmt} {np pos pos' : Pos} {tb : WX → TS} {ts : Addr → Value → Option Addr → TS} (hs : X.stack = X.env :: X.outer) (hf : X.env.frame = some X.env.locals) (hc : Names X x c) (tk : Takes X Wout)
    (hb : ∀ (W : WX) (pn : List (Addr × Obj)) (xe : Value → Shared → Prop), Takes (X.tr pn xe) W → PassesOwn (model X.prog X.w) X.A X.env xe → PSs (X.tr pn xe) body (tb W))
    (hsu : ∀ (a : Addr) (oe : Obj) (cls : Value) (d : Option Addr) (pn : List (Addr × Obj)), Zc cls d oe → (∃ vs, oe.data = .fields vs) → PSs (X.suite a ((a, oe) :: pn)) (b₀ :: suite) (ts a cls d)) :
    PS X (.Try body [.ExceptHandler (some (.Name x np)) none (b₀ :: suite) pos'] [] [] pos) (tTry1 X.K c tb ts Wout) := ps_try_only hs hf hc tk hb hsu
theorem x_onlyT {ts : Addr → Value → Option Addr → TS} (hx : PySem.W.exmOne K cls c = some true) (q : ∀ a, H a = none → ts a cls d D σ H) : wOnly K c ts Wout D cls d σ H := ⟨true, hx, fun _ => q, fun z => nomatch z⟩
theorem x_onlyF {ts : Addr → Value → Option Addr → TS} (hx : PySem.W.exmOne K cls c = some false) (q : Wout cls d σ H) : wOnly K c ts Wout D cls d σ H := ⟨false, hx, (fun z => nomatch z), fun _ => q⟩
def tTryA (K : PySem.W.Frag) (c : Value) (i : Nat) (tb : WX → TS) (ts : Addr → Value → Option Addr → TS) (Wout : WX) : TS := fun D σ H => tb (wAs K c i ts Wout D) D σ H
theorem x_tryA {i : Nat} {tb : WX → TS} {ts : Addr → Value → Option Addr → TS} (h : tb (wAs K c i ts Wout D) D σ H) : tTryA K c i tb ts Wout D σ H := h
theorem x_seqTA {i : Nat} {tb : WX → TS} {ts : Addr → Value → Option Addr → TS} {u : TS} (h : tTryA K c i tb ts Wout { D with nx := u D } σ H) : tSeq (tTryA K c i tb ts Wout) u D σ H := h
theorem ps_tryA {x n : Str} {i : Nat} {body suite : List Stmt} {b₀ : Stmt} {np pos pos' : Pos} {tb : WX → TS} {ts : Addr → Value → Option Addr → TS} (hs : X.stack = X.env :: X.outer) (hf : X.env.frame = some X.env.locals) (hN : X.N.Nodup) (hi : X.N[i]? = some n) (hln : X.env.kindOf n = some .local) (hc : Names X x c) (tk : Takes X Wout)
    (hb : ∀ (W : WX) (pn : List (Addr × Obj)) (xe : Value → Shared → Prop), Takes (X.tr pn xe) W → PassesOwn (model X.prog X.w) X.A X.env xe → PSs (X.tr pn xe) body (tb W))
    (hsu : ∀ (a : Addr) (oe : Obj) (cls : Value) (d : Option Addr) (pn : List (Addr × Obj)), Zc cls d oe → (∃ vs, oe.data = .fields vs) → PSs (X.suite a ((a, oe) :: pn)) (b₀ :: suite) (ts a cls d)) :
    PS X (.Try body [.ExceptHandler (some (.Name x np)) (some n) (b₀ :: suite) pos'] [] [] pos) (tTryA X.K c i tb ts Wout) := ps_try_as hs hf hN hi hln hc tk hb hsu
theorem x_asT {i : Nat} {ts : Addr → Value → Option Addr → TS} (hx : PySem.W.exmOne K cls c = some true)
    (q : ∀ a, H a = none → ts a cls d { nx := fun σ' H' => D.nx (σ'.set i none) H', rt := D.rt, bk := fun σ' H' => D.bk (σ'.set i none) H', ct := fun σ' H' => D.ct (σ'.set i none) H' } (σ.set i (some (.ref a))) H) : wAs K c i ts Wout D cls d σ H := ⟨true, hx, fun _ => q, fun z => nomatch z⟩
theorem x_asF {i : Nat} {ts : Addr → Value → Option Addr → TS} (hx : PySem.W.exmOne K cls c = some false) (q : Wout cls d σ H) : wAs K c i ts Wout D cls d σ H := ⟨false, hx, (fun z => nomatch z), fun _ => q⟩
/-! several except clauses -/
def tTryM (K : PySem.W.Frag) (l : List (Value × (Addr → Value → Option Addr → TS))) (tb : WX → TS) (Wout : WX) : TS := fun D σ H => tb (wMany K Wout D l) D σ H
theorem x_tryM {l : List (Value × (Addr → Value → Option Addr → TS))} {tb : WX → TS} (h : tb (wMany K Wout D l) D σ H) : tTryM K l tb Wout D σ H := h
theorem x_seqTM {l : List (Value × (Addr → Value → Option Addr → TS))} {tb : WX → TS} {u : TS} (h : tTryM K l tb Wout { D with nx := u D } σ H) : tSeq (tTryM K l tb Wout) u D σ H := h
theorem ps_tryM {body : List Stmt} {h₀ : ExceptHandler} {hds : List ExceptHandler} {l : List (Value × (Addr → Value → Option Addr → TS))} {pos : Pos} {tb : WX → TS} (hs : X.stack = X.env :: X.outer) (hf : X.env.frame = some X.env.locals) (tk : Takes X Wout)
    (hb : ∀ (W : WX) (pn : List (Addr × Obj)) (xe : Value → Shared → Prop), Takes (X.tr pn xe) W → PassesOwn (model X.prog X.w) X.A X.env xe → PSs (X.tr pn xe) body (tb W))
    (hh : HdsOk X (h₀ :: hds) l) : PS X (.Try body (h₀ :: hds) [] [] pos) (tTryM X.K l tb Wout) := ps_try_many hs hf tk hb hh
theorem x_manyT {l : List (Value × (Addr → Value → Option Addr → TS))} {ts : Addr → Value → Option Addr → TS} (hx : PySem.W.exmOne K cls c = some true) (q : ∀ a, H a = none → ts a cls d D σ H) : wMany K Wout D ((c, ts) :: l) cls d σ H := ⟨true, hx, fun _ => q, fun z => nomatch z⟩
theorem x_manyF {l : List (Value × (Addr → Value → Option Addr → TS))} {ts : Addr → Value → Option Addr → TS} (hx : PySem.W.exmOne K cls c = some false) (q : wMany K Wout D l cls d σ H) : wMany K Wout D ((c, ts) :: l) cls d σ H := ⟨false, hx, (fun z => nomatch z), fun _ => q⟩
theorem x_manyN (q : Wout cls d σ H) : wMany K Wout D [] cls d σ H := q
/-- e.f of a caught exception -/
def xfK (a : Addr) (cls : Value) (d : Option Addr) (C : Addr) (f : Str) (Q : VK) : V → Hp → Prop := fun x H1 => x = .ref a ∧ cls = .ref C ∧ ∃ (dd : Addr) (fs : List (Str × V)) (v : V), d = some dd ∧ H1 dd = some (.xd fs) ∧ fs.lookup f = some v ∧ Q v H1
theorem x_xf {f : Str} {te : TE} (h : te σ H (xfK a cls d C f Q)) : tXf a cls d C f te σ H Q := h
theorem x_xfK {f : Str} {dd : Addr} {fs : List (Str × V)} {v : V} (h : H dd = some (.xd fs)) (hl : fs.lookup f = some v) (q : Q v H) : xfK a (.ref C) (some dd) C f Q (.ref a) H := ⟨rfl, rfl, dd, fs, v, rfl, h, hl, q⟩
/-- isinstance(e, c) of a caught exception without fields -/
def rIsX (K : PySem.W.Frag) (a : Addr) (cls : Value) (d : Option Addr) : List V → Hp → VK → Prop := fun xs H Q => ∃ (E : Addr) (t : String) (b : Bool), cls = .ref E ∧ d = none ∧ ExcC K E ∧ xs = [.ref a, .ty t] ∧ PySem.W.kitOne K (.ref E) (.type t) = some b ∧ Q (.bl b) H
theorem cr_isX {oe : Obj} {pn : List (Addr × Obj)} (hz : Zc cls d oe) (hf : ∃ vs, oe.data = .fields vs) : CallR (X.suite a ((a, oe) :: pn)) (.builtin "isinstance") (rIsX X.K a cls d) := by
  intro pins s σ H xs us Q I r h
  obtain ⟨E, t, b, rfl, rfl, hE, rfl, hk, q⟩ := h
  exact call_isE hE hz hf pins s σ H _ us Q I r ⟨.ty t, .type t, b, rfl, fun u z => z, hk, q⟩
theorem x_isX {E : Addr} {t : String} {b : Bool} (q : Q (.bl b) H) (hE : ExcC K E) (hk : PySem.W.kitOne K (.ref E) (.type t) = some b) : rIsX K a (.ref E) none [.ref a, .ty t] H Q := ⟨E, t, b, rfl, rfl, hE, rfl, hk, q⟩
/-! a class with an own __init__ -/
structure WInit (K : PySem.W.Frag) (W : Addr) : Prop where
  ga : PySem.W.specialIn K (.ref W) "__getattribute__" = some (some (.builtin "type.__getattribute__"))
  rd : PySem.W.readsIn K W (.type "type") = true
  fd : PySem.W.findCls K (.ref W) (.type "type") "__init__" = some (.val (.builtin "ValueError.__init__"))
theorem pe_weinit {pl : Sem Bool} {x : Str} {Wc : Addr} {e : Expr} {es : List Expr} {ta : TA} {p1 p2 pos : Pos} (w : WInit X.K Wc) (hg : Gl X x) (hm : X.mg x = some (.ref Wc)) (ha : PA X (e :: es) ta) (hdb : (x == ("__debug__" : Str)) = false := by decide)
    (hc : eval (.Call (.Attribute (.Name x p1) "__init__" p2) (e :: es) [] pos) X.env = (do
      let ov ← eval (.Name x p1) X.env
      standAt p2.atName
      let (f, first) ← holding [ov] (getMethod ov "__init__" pl)
      callWith pos f first (backTo pos (starEach (e :: es) X.env)) (backToKw pos (keywordEach [] X.env))) := by rfl)
    (he : starEach (e :: es) X.env = (false, eval e X.env) :: starEach es X.env := by rfl) (hpl : (backTo pos (starEach es X.env)).any (·.1) = false := by rfl) :
    PE X (.Call (.Attribute (.Name x p1) "__init__" p2) (e :: es) [] pos) (tVeI X.K ta) := by
  refine ⟨fun pins s σ H Q I h => ?_⟩
  refine PySem.W.methodCall_KW (ld_glob I hg hm ?_ hdb) hc
  refine PySem.W.method_cls I.kIn w.ga (PySem.W.cls_value I.kIn w.rd w.fd (by decide +kernel) ?_)
  show wpAny _ _ (callWith pos (Value.builtin "ValueError.__init__") [] (backTo pos (starEach (e :: es) X.env)) []) _ _ _
  refine PyProof.Rows.callWith_method1 (thn (ha.run pos pins _ σ H _ (I.tok _) h) fun us s1 ⟨vs, H1, I1, r1, a, C, ws, ev, hl, T, ea, q⟩ => ?_) he hpl
  subst ev
  cases r1 with
  | @cons _ u0 _ ur ra rw' =>
    obtain rfl : u0 = Value.ref a := ra
    have hlen : ur.length ≤ sizeLine := by
      rw [← Paired.length rw', sizeLine_eq]
      omega
    exact oinit_ok T I1 ea hlen fun s' J => ⟨.non, H1, J, rfl, q⟩
def veK (K : PySem.W.Frag) (Q : VK) : List V → Hp → Prop := fun vs H1 => ∃ (a C : Addr) (ws : List V), vs = .ref a :: ws ∧ ws.length ≤ 1000 ∧ OexC K C ∧ H1 a = some (exo a C none) ∧ Q .non H1
theorem x_vei {ta : TA} (h : ta σ H (veK K Q)) : tVeI K ta σ H Q := h
theorem x_veK {ws : List V} (o : OexC K C) (h : H a = some (exo a C none)) (q : Q .non H) (hl : ws.length ≤ 1000) : veK K Q (.ref a :: ws) H := ⟨a, C, ws, rfl, hl, o, h, q⟩
/-- self.f = v, the first one -/
theorem x_ost {f : Str} {to te : TE} (h : te σ H fun y H1 => to σ H1 fun x H2 => ∃ a C : Addr, x = .ref a ∧ OexC K C ∧ PySem.W.findIn K (.ref C) f = some none ∧
  ((H2 a = some (exo a C none) ∧ ∀ dx, H2 dx = none → dx ≠ a → D.nx σ (upd (upd H2 dx (exd dx [(f, y)])) a (exo a C (some dx)))) ∨
    ∃ (dx : Addr) (fs : List (Str × V)), H2 a = some (exo a C (some dx)) ∧ H2 dx = some (exd dx fs) ∧ fs.length ≤ 900 ∧ D.nx σ (upd H2 dx (exd dx ((f, y) :: fs))))) : tOst K f to te D σ H := h
/-- the spec of an exception's __init__ with one field f: what is left -/
def spXInit (K : PySem.W.Frag) (C : Addr) (f : Str) (A : V → Prop) : Sp := fun vs H Q _ => ∃ (a : Addr) (v : V), vs = [.ref a, v] ∧ A v ∧ OexC K C ∧ PySem.W.findIn K (.ref C) f = some none ∧ H a = some (exo a C none) ∧
  ∀ dx, H dx = none → dx ≠ a → Q .non (upd (upd H dx (exd dx [(f, v)])) a (exo a C (some dx)))
theorem passE0 : Passes (L2.CX X.prog X.w) X (fun _ _ _ => False) := fun _ _ _ _ _ _ _ h => by
  obtain ⟨_, _, _, _, _, _, _, _, _, _, _, _, z⟩ := h
  exact z.elim
def moK (C : Addr) (sp : Sp) (dvs : List V) (Q : XK) : List V → Hp → Prop := fun vs H1 => vs.length ≤ 1000 ∧ ∀ a, H1 a = none → sp (.ref a :: (vs ++ dvs)) (upd H1 a (exo a C none))
  (fun v H2 => v = .non ∧ ∃ (d : Addr) (fs : List (Str × V)), H2 a = some (exo a C (some d)) ∧ H2 d = some (exd d fs) ∧ H1 d = none ∧ Q (.ref C) (some d) (upd (del H2 a) d (.xd fs))) (fun _ _ _ => False)
theorem x_mkO {sp : Sp} {dvs : List V} {Q : XK} {ta : TA} (h : ta σ H (moK C sp dvs Q)) : tMkO C sp dvs ta σ H Q := h
theorem x_moK {f : Str} {v : V} {A : V → Prop} {Q : XK} (hv : A v) (q : ∀ d H1, H d = none → Same H H1 → H1 d = some (.xd [(f, v)]) → Q (.ref C) (some d) H1) (o : OexC K C) (n : PySem.W.findIn K (.ref C) f = some none) : moK C (spXInit K C f A) [] Q [v] H := by
  refine ⟨Nat.le_of_ble_eq_true rfl, fun a na => ⟨a, v, rfl, hv, o, n, upd_same, fun dx nd ne => ⟨rfl, dx, [(f, v)], upd_same, ?_, ?_, ?_⟩⟩⟩
  · rw [upd_ne ne, upd_same]
  · rw [upd_ne ne] at nd; exact nd
  · rw [upd_ne ne] at nd
    have e : upd (del (upd (upd (upd H a (exo a C none)) dx (exd dx [(f, v)])) a (exo a C (some dx))) a) dx (.xd [(f, v)]) = upd H dx (.xd [(f, v)]) := by
      funext b
      by_cases hb : b = dx
      · rw [hb, upd_same, upd_same]
      · rw [upd_ne hb, upd_ne hb]
        by_cases hba : b = a
        · rw [hba, del_same, na]
        · rw [del_ne hba, upd_ne hba, upd_ne hb, upd_ne hba]
    rw [e]
    exact q dx _ nd (same_upd nd) upd_same
end
/-! several except clauses, some of them with a name -/
section
variable {X : Cx}
/-- what a clause does with an exception at q: the slot of its name, if it has one, holds it -/
def inAs (o : Option Nat) (ts : Addr → Value → Option Addr → TS) (q : Addr) (cls : Value) (d : Option Addr) : TS := match o with
  | none => ts q cls d
  | some i => fun D σ H => ts q cls d { nx := fun σ' H' => D.nx (σ'.set i none) H', rt := D.rt, bk := fun σ' H' => D.bk (σ'.set i none) H', ct := fun σ' H' => D.ct (σ'.set i none) H' } (σ.set i (some (.ref q))) H
def wMix (K : PySem.W.Frag) (Wout : WX) (D : Ends) : List (Value × Option Nat × (Addr → Value → Option Addr → TS)) → WX
  | [] => Wout
  | (c, o, ts) :: r => fun cls d σ H => ∃ b, PySem.W.exmOne K cls c = some b ∧ (b = true → ∀ q, H q = none → inAs o ts q cls d D σ H) ∧ (b = false → wMix K Wout D r cls d σ H)
inductive Cl (X : Cx) : List ExceptHandler → List (Value × Option Nat × (Addr → Value → Option Addr → TS)) → Prop
  | nil : Cl X [] []
  | one {x : Str} {c : Value} {ts : Addr → Value → Option Addr → TS} {b₀ : Stmt} {su : List Stmt} {p1 p2 : Pos} {hs : List ExceptHandler} {l : List (Value × Option Nat × (Addr → Value → Option Addr → TS))} (nm : Names X x c)
      (k : ∀ (q : Addr) (oe : Obj) (cls : Value) (d : Option Addr) (pn : List (Addr × Obj)), Zc cls d oe → (∃ vs, oe.data = .fields vs) → PSs (X.suite q ((q, oe) :: pn)) (b₀ :: su) (ts q cls d)) (r : Cl X hs l) :
      Cl X (.ExceptHandler (some (.Name x p1)) none (b₀ :: su) p2 :: hs) ((c, none, ts) :: l)
  | asn {x n : Str} {i : Nat} {c : Value} {ts : Addr → Value → Option Addr → TS} {b₀ : Stmt} {su : List Stmt} {p1 p2 : Pos} {hs : List ExceptHandler} {l : List (Value × Option Nat × (Addr → Value → Option Addr → TS))} (hi : X.N[i]? = some n) (hl : X.env.kindOf n = some .local) (nm : Names X x c)
      (k : ∀ (q : Addr) (oe : Obj) (cls : Value) (d : Option Addr) (pn : List (Addr × Obj)), Zc cls d oe → (∃ vs, oe.data = .fields vs) → PSs (X.suite q ((q, oe) :: pn)) (b₀ :: su) (ts q cls d)) (r : Cl X hs l) :
      Cl X (.ExceptHandler (some (.Name x p1)) (some n) (b₀ :: su) p2 :: hs) ((c, some i, ts) :: l)
def tMix (K : PySem.W.Frag) (l : List (Value × Option Nat × (Addr → Value → Option Addr → TS))) (tb : WX → TS) (Wout : WX) : TS := fun D σ H => tb (wMix K Wout D l) D σ H
theorem ps_mix {body : List Stmt} {h0 : ExceptHandler} {hs : List ExceptHandler} {l : List (Value × Option Nat × (Addr → Value → Option Addr → TS))} {pos : Pos} {tb : WX → TS} {Wout : WX}
    (es : X.stack = X.env :: X.outer) (ef : X.env.frame = some X.env.locals) (nd : X.N.Nodup) (tk : Takes X Wout)
    (hb : ∀ (W : WX) (pn : List (Addr × Obj)) (xe : Value → Shared → Prop), Takes (X.tr pn xe) W → PassesOwn (model X.prog X.w) X.A X.env xe → PSs (X.tr pn xe) body (tb W))
    (cl : Cl X (h0 :: hs) l) : PS X (.Try body (h0 :: hs) [] [] pos) (tMix X.K l tb Wout) := by
  refine ⟨fun pins s σ H D I h => wpAny_Try_except ?_⟩
  have ok := I.ok
  have frs1 : X.A.frames = some (X.env :: X.outer) := by rw [ok.frames, es]
  have run := (hb (wMix X.K Wout D l) (X.pn ++ pins) (fun e z1 => wpAny (model X.prog X.w) X.A (noteFrame e X.env) (fun _ z2 => wpAny (model X.prog X.w) X.A (setFlight e none)
    (fun _ z3 => wpAny (model X.prog X.w) X.A (handleBy e X.env (h0 :: hs)) (SP X pins D) X.xe z3) X.xe z2) X.xe z1) (fun u t xx => ?_) PassesOwn.looking).run [] s σ H D (I.toTry _) h
  · refine wpAny_mono run (fun f z hz => ?_) (fun _ _ k => k)
    cases f
    · obtain ⟨σ', H', J, y⟩ := hz; exact wpAny_execs_nil ⟨σ', H', J.ofTry ok, y⟩
    · obtain ⟨σ', H', J, y⟩ := hz; exact ⟨σ', H', J.ofTry ok, y⟩
    · obtain ⟨σ', H', J, y⟩ := hz; exact ⟨σ', H', J.ofTry ok, y⟩
    · obtain ⟨v, σ', H', J, r, y⟩ := hz; exact ⟨v, σ', H', J.ofTry ok, r, y⟩
  obtain ⟨q, bs, sI, pins', τ, G, cls, d, rfl, J0, nb, u1, sk0, nq, os, ag, wish⟩ := xx
  have J : Inv X pins τ G sI := J0.ofTry ok
  have sk : Sky bs (X.env :: X.outer) q (Zc cls d) X.env.locals t.heap := by rw [← es]; exact sk0
  show wpAny (model X.prog X.w) X.A (noteFrame (.ref q) X.env) _ _ t
  refine Sky.land Zc.steady frs1 ef sk fun m fm u2 => ?_
  have Jm : Inv X pins τ G { t with heap := m } := J.landed nb fm.1 (u1.trans u2) os ag
  obtain ⟨om, vm, gm, zm, dm⟩ := fm.there
  have far : q ∉ L2.frs (X.env :: X.outer) := fun hm => by
    obtain ⟨_, o', e', hnf⟩ := fm.2.2.1.mem hm
    rw [gm] at e'; cases e'; exact hnf _ dm
  have qL : q ≠ X.env.locals := fun z => far (List.mem_filterMap.mpr ⟨X.env, List.mem_cons_self, by rw [ef, z]⟩)
  have qF : q ∉ X.fs := fun hm => by
    obtain ⟨e, he, y⟩ := List.mem_filterMap.mp hm
    exact far (List.mem_filterMap.mpr ⟨e, List.mem_cons_of_mem _ he, y⟩)
  have Sm := Jm.suite gm dm nq qL qF
  suffices go : ∀ (hs' : List ExceptHandler) (l' : List (Value × Option Nat × (Addr → Value → Option Addr → TS))), Cl X hs' l' → wMix X.K Wout D l' cls d τ G →
      wpAny (model X.prog X.w) X.A (handleBy (.ref q) X.env hs') (SP X pins D) X.xe { t with heap := m } from go _ _ cl wish
  have looks : PySem.W.Looks (model X.prog X.w) m (typeOf (.ref q)) cls := fun A Q E z k y => wpAny_typeOf_ref (k _ _ gm) (by rw [zm.1]; exact y)
  have nameIs : ∀ {x : Str} {c : Value} {p1 : Pos} {Q E : Value → Shared → Prop}, Names X x c → Q c { t with heap := m } →
      wpAny (model X.prog X.w) (X.A.mark (some (.ref q))) (eval (.Name x p1) X.env) Q E { t with heap := m } := fun nm y => by
    obtain ⟨hg, hdbg, hm | ⟨hm, hv, hnn⟩⟩ := nm
    · exact ld_glob (X := X.suite q ((q, om) :: (X.pn ++ pins))) Sm hg hm y hdbg
    · exact ld_blt (X := X.suite q ((q, om) :: (X.pn ++ pins))) Sm hg hm hv y hnn hdbg
  intro hs' l' hk
  induction hk with
  | nil =>
    intro wo
    refine wpAny_handleBy_nil ?_
    have fm' := fm
    obtain ⟨_, _, _, oe, vs, T, oT, _, g0, z0, d0, i0, _⟩ := fm'
    unfold PySem.passOn
    refine wpAny_bind (wpAny_field g0 d0 i0 ?_)
    rw [if_neg (show ¬ ((Value.ref T == Value.none) = true) by simp)]
    have out : wpAny (model X.prog X.w) X.A (setFlight (.ref q) X.env.frame) (fun _ z4 => wpAny (model X.prog X.w) X.A (throw (.ref q) : Sem Flow) (SP X pins D) X.xe z4) X.xe { t with heap := m } := by
      rw [ef]
      exact HandSPX.setFlight_upZ fm fun m4 hh4 u4 => wpAny_throw (tk _ _ ⟨q, bs, sI, pins, τ, G, cls, d, rfl, J, nb, (u1.trans u2).trans u4, .inr (.inr (by rw [es]; exact hh4)), nq, os, ag, wo⟩)
    first | exact wpAny_bind (wpAny_pure (wpAny_bind out)) | exact wpAny_bind out
  | @one x c ts b₀ su p1 p2 hs2 l2 nm k r ih =>
    intro ⟨b, hb1, yes, no⟩
    refine wpAny_handleBy_cons (codeAny_handlers_test ?_) (by intro y; cases y)
    refine nameIs nm ((PySem.W.exm_one (M := model X.prog X.w) Jm.kIn looks hb1).here ?_)
    cases b
    · show wpAny (model X.prog X.w) X.A (handleBy (.ref q) X.env hs2) _ _ _
      exact ih (no rfl)
    refine codeAny_handlers_suite (HandSPX.lands_againZ fm fun m4 f4 u4 => ?_)
    have J4 : Inv X pins τ G { t with heap := m4 } := J.landed nb f4.1 ((u1.trans u2).trans u4) os ag
    obtain ⟨o4, v4, g4, z4, d4⟩ := f4.there
    refine wpAny_mono ((k q o4 cls d (X.pn ++ pins) z4 ⟨_, d4⟩).run [] _ _ G _ (J4.suite g4 d4 nq qL qF) (yes rfl q nq)) (fun f z hz => ?_) (fun _ _ y => y.elim)
    cases f
    · obtain ⟨σ6, H6, S6, y⟩ := hz; exact ⟨_, _, S6.unsuite ok, y⟩
    · obtain ⟨σ6, H6, S6, y⟩ := hz; exact ⟨_, _, S6.unsuite ok, y⟩
    · obtain ⟨σ6, H6, S6, y⟩ := hz; exact ⟨_, _, S6.unsuite ok, y⟩
    · obtain ⟨v6, σ6, H6, S6, r6, y⟩ := hz; exact ⟨_, _, _, S6.unsuite ok, r6, y⟩
  | @asn x n i c ts b₀ su p1 p2 hs2 l2 hi hl nm k r ih =>
    intro ⟨b, hb1, yes, no⟩
    refine wpAny_handleBy_cons (codeAny_handlers_test ?_) (by intro y; cases y)
    refine nameIs nm ((PySem.W.exm_one (M := model X.prog X.w) Jm.kIn looks hb1).here ?_)
    cases b
    · show wpAny (model X.prog X.w) X.A (handleBy (.ref q) X.env hs2) _ _ _
      exact ih (no rfl)
    refine codeAny_handlers_suite_as (HandSPX.lands_againZ fm fun m4 f4 u4 => ?_)
    have J4 : Inv X pins τ G { t with heap := m4 } := J.landed nb f4.1 ((u1.trans u2).trans u4) os ag
    obtain ⟨o4, v4, g4, z4, d4⟩ := f4.there
    refine store_ok (X := X.suite q ((q, o4) :: (X.pn ++ pins))) (v := .ref q) (J4.suite g4 d4 nq qL qF) nd hi (.inl hl) rfl (fun z5 S5 => ?_) (.inr hl)
    refine wpAny_mono ((k q o4 cls d (X.pn ++ pins) z4 ⟨_, d4⟩).run [] z5 _ G _ S5 (yes rfl q nq)) (fun f z hz => ?_) (fun _ _ y => y.elim)
    have gone : ∀ {σ6 : L2.St} {H6 : Hp} {Q : Shared → Prop}, Inv (X.suite q ((q, o4) :: (X.pn ++ pins))) [] σ6 H6 z → (∀ z7, Inv X pins (σ6.set i none) H6 z7 → Q z7) →
        wpAny (model X.prog X.w) X.A (do bindName X.env n .none; unbindBehindTheSuite X.env n p2) (fun _ z7 => Q z7) X.xe z := fun S6 y => gone_ok (S6.unsuite ok) nd hi hl y
    cases f
    · obtain ⟨σ6, H6, S6, y⟩ := hz; exact gone S6 fun z7 J7 => ⟨_, _, J7, y⟩
    · obtain ⟨σ6, H6, S6, y⟩ := hz; exact gone S6 fun z7 J7 => ⟨_, _, J7, y⟩
    · obtain ⟨σ6, H6, S6, y⟩ := hz; exact gone S6 fun z7 J7 => ⟨_, _, J7, y⟩
    · obtain ⟨v6, σ6, H6, S6, r6, y⟩ := hz; exact gone S6 fun z7 J7 => ⟨_, _, _, J7, r6, y⟩
variable {K : PySem.W.Frag} {Wout : WX} {D : Ends} {σ : L2.St} {H : Hp} {cls c : Value} {d : Option Addr}
theorem x_mix {l : List (Value × Option Nat × (Addr → Value → Option Addr → TS))} {tb : WX → TS} (h : tb (wMix K Wout D l) D σ H) : tMix K l tb Wout D σ H := h
theorem x_seqMix {l : List (Value × Option Nat × (Addr → Value → Option Addr → TS))} {tb : WX → TS} {u : TS} (h : tMix K l tb Wout { D with nx := u D } σ H) : tSeq (tMix K l tb Wout) u D σ H := h
theorem x_mixT {o : Option Nat} {l : List (Value × Option Nat × (Addr → Value → Option Addr → TS))} {ts : Addr → Value → Option Addr → TS} (hx : PySem.W.exmOne K cls c = some true) (y : ∀ q, H q = none → inAs o ts q cls d D σ H) : wMix K Wout D ((c, o, ts) :: l) cls d σ H := ⟨true, hx, fun _ => y, fun z => nomatch z⟩
theorem x_mixF {o : Option Nat} {l : List (Value × Option Nat × (Addr → Value → Option Addr → TS))} {ts : Addr → Value → Option Addr → TS} (hx : PySem.W.exmOne K cls c = some false) (y : wMix K Wout D l cls d σ H) : wMix K Wout D ((c, o, ts) :: l) cls d σ H := ⟨false, hx, (fun z => nomatch z), fun _ => y⟩
theorem x_mixN (y : Wout cls d σ H) : wMix K Wout D [] cls d σ H := y
end
/-! ### built-in calls -/
section
variable {X : Cx}
def uMax (K : PySem.W.Frag) : List V → Hp → VK → Prop := fun xs H Q => (∃ i j, xs = [.int i, .int j] ∧ Q (.int (if j > i then j else i)) H) ∨ rMax K xs H Q
theorem cr_umax (hc : X.calm = true := by rfl) : CallR X (.builtin "max") (uMax X.K) := (call_max2 hc).or (cr_max hc)
def uMin (K : PySem.W.Frag) : List V → Hp → VK → Prop := fun xs H Q => (∃ i j, xs = [.int i, .int j] ∧ Q (.int (if j < i then j else i)) H) ∨ rMin K xs H Q
theorem cr_umin (hc : X.calm = true := by rfl) : CallR X (.builtin "min") (uMin X.K) := (call_min2 hc).or (cr_min hc)
theorem cr_usum (hc : X.calm = true := by rfl) : CallR X (.builtin "sum") (rSum X.K) := cr_sum hc
theorem cr_uall (hc : X.calm = true := by rfl) : CallR X (.builtin "all") (rAll X.K) := cr_all hc
theorem cr_uany (hc : X.calm = true := by rfl) : CallR X (.builtin "any") (rAny X.K) := cr_any hc
def uList (K : PySem.W.Frag) : List V → Hp → VK → Prop := fun xs H Q => (∃ p ys, xs = [.ref p] ∧ (SqL K H p ys ∨ SqT K H p ys) ∧ ∀ l, H l = none → Q (.ref l) (upd H l (.lst ys))) ∨ rListD xs H Q
theorem ct_list (hc : X.calm = true := by rfl) : CallR X (.type "list") (uList X.K) := call_list_of.or (call_list_dK hc)
def uTup (K : PySem.W.Frag) : List V → Hp → VK → Prop := fun xs H Q => ∃ x, xs = [x] ∧ kTup K x H Q
theorem ct_tuple : CallR X (.type "tuple") (uTup X.K) := by
  intro pins s σ H xs us Q I r h
  obtain ⟨x, rfl, h⟩ := h
  obtain ⟨u, rfl, ru⟩ := vals1 r
  exact rl_tuple pins s σ H x u Q I ru h
def uInt : List V → Hp → VK → Prop := fun xs H Q => (∃ i, xs = [.int i] ∧ Q (.int i) H) ∨ ∃ k, xs = [.bl k] ∧ Q (.int (if k then 1 else 0)) H
theorem ct_int : CallR X (.type "int") uInt := call_int1
theorem bt_max : bootBuiltins "max" = some (.builtin "max") := by decide +kernel
theorem bt_min : bootBuiltins "min" = some (.builtin "min") := by decide +kernel
theorem bt_sum : bootBuiltins "sum" = some (.builtin "sum") := by decide +kernel
theorem bt_all : bootBuiltins "all" = some (.builtin "all") := by decide +kernel
theorem bt_any : bootBuiltins "any" = some (.builtin "any") := by decide +kernel
theorem bt_sorted : bootBuiltins "sorted" = some (.builtin "sorted") := by decide +kernel
def uLen (K : PySem.W.Frag) : List V → Hp → VK → Prop := fun xs H Q => (∃ p ys, xs = [.ref p] ∧ (SqL K H p ys ∨ SqT K H p ys) ∧ Q (.int ys.length) H) ∨ ((∃ z, xs = [.str z] ∧ z.length ≤ sizeLine ∧ Q (.int z.length) H) ∨ (∃ a kvs, xs = [V.ref a] ∧ H a = some (.dK kvs) ∧ Q (.int kvs.length) H))
theorem cr_ulen : CallR X (.builtin "len") (uLen X.K) := call_len_seq.or (call_len_str.or call_lenD)
def uIsi (K : PySem.W.Frag) : List V → Hp → VK → Prop := rIsi K
theorem cr_uisinstance : CallR X (.builtin "isinstance") (uIsi X.K) := call_isi
def uStr : List V → Hp → VK → Prop := fun xs H Q => ∃ i, xs = [.int i] ∧ i.natAbs.log2 < 1920 ∧ Q (.str (toString i)) H
theorem ct_str : CallR X (.type "str") uStr := call_str_int
theorem bt_isinstance : bootBuiltins "isinstance" = some (.builtin "isinstance") := by decide +kernel
theorem bt_int : bootBuiltins "int" = some (.type "int") := by decide +kernel
theorem bt_bool : bootBuiltins "bool" = some (.type "bool") := by decide +kernel
theorem bt_str : bootBuiltins "str" = some (.type "str") := by decide +kernel
theorem bt_ValueError : bootBuiltins "ValueError" = some (.type "ValueError") := by decide +kernel
theorem bt_list : bootBuiltins "list" = some (.type "list") := by decide +kernel
theorem bt_tuple : bootBuiltins "tuple" = some (.type "tuple") := by decide +kernel
theorem bt_dict : bootBuiltins "dict" = some (.type "dict") := by decide +kernel
theorem bt_len : bootBuiltins "len" = some (.builtin "len") := by decide +kernel
end
section
variable {σ : L2.St} {H : Hp} {K : PySem.W.Frag} {Q : VK} {p : Addr} {xs : List V} {n : Int} {v : V}
theorem x_lenL (h : SqL K H p xs) (q : Q (.int xs.length) H) : uLen K [.ref p] H Q := .inl ⟨p, xs, rfl, .inl h, q⟩
theorem x_lenM {α : Type} {l : List α} {f : α → V} (h : SqL K H p (l.map f)) (q : Q (.int l.length) H) : uLen K [.ref p] H Q := .inl ⟨p, _, rfl, .inl h, by rw [List.length_map]; exact q⟩
theorem x_lenT (h : SqT K H p xs) (q : Q (.int xs.length) H) : uLen K [.ref p] H Q := .inl ⟨p, xs, rfl, .inr h, q⟩
/-- the built-in class of a value -/
def tyN : V → Option String
  | .non => some "NoneType" | .bl _ => some "bool" | .int _ => some "int" | .str _ => some "str" | .flt _ => some "float" | _ => none
theorem x_isiV {c : String} {t : String} {b : Bool} (ht : tyN v = some t) (hk : kitB t c = some b) (q : Q (.bl b) H) : uIsi K [v, .ty c] H Q := by
  have ty : TyX K H v (.type t) := by
    cases v <;> simp only [tyN, Option.some.injEq, reduceCtorEq] at ht <;> subst ht
    · exact .base .non
    · exact .base (.bl _)
    · exact .base (.int _)
    · exact .base (.str _)
    · exact .base (.flt _)
  exact ⟨v, .ty c, .type t, .type c, b, rfl, .ty c, ty, kit_ty hk, q⟩
theorem x_isiR {c t : String} {b : Bool} (ty : TyX K H (.ref p) (.type t)) (hk : kitB t c = some b) (q : Q (.bl b) H) : uIsi K [.ref p, .ty c] H Q :=
  ⟨.ref p, .ty c, .type t, .type c, b, rfl, .ty c, ty, kit_ty hk, q⟩
theorem x_isiNon_int (q : Q (.bl false) H) : uIsi K [V.non, .ty "int"] H Q := x_isiV rfl (by decide +kernel) q
theorem x_isiNon_bool (q : Q (.bl false) H) : uIsi K [V.non, .ty "bool"] H Q := x_isiV rfl (by decide +kernel) q
theorem x_isiNon_str (q : Q (.bl false) H) : uIsi K [V.non, .ty "str"] H Q := x_isiV rfl (by decide +kernel) q
theorem x_isiNon_list (q : Q (.bl false) H) : uIsi K [V.non, .ty "list"] H Q := x_isiV rfl (by decide +kernel) q
theorem x_isiNon_tuple (q : Q (.bl false) H) : uIsi K [V.non, .ty "tuple"] H Q := x_isiV rfl (by decide +kernel) q
theorem x_isiNon_dict (q : Q (.bl false) H) : uIsi K [V.non, .ty "dict"] H Q := x_isiV rfl (by decide +kernel) q
theorem x_isiBl_int {b : Bool} (q : Q (.bl true) H) : uIsi K [(V.bl b), .ty "int"] H Q := x_isiV rfl (by decide +kernel) q
theorem x_isiBl_bool {b : Bool} (q : Q (.bl true) H) : uIsi K [(V.bl b), .ty "bool"] H Q := x_isiV rfl (by decide +kernel) q
theorem x_isiBl_str {b : Bool} (q : Q (.bl false) H) : uIsi K [(V.bl b), .ty "str"] H Q := x_isiV rfl (by decide +kernel) q
theorem x_isiBl_list {b : Bool} (q : Q (.bl false) H) : uIsi K [(V.bl b), .ty "list"] H Q := x_isiV rfl (by decide +kernel) q
theorem x_isiBl_tuple {b : Bool} (q : Q (.bl false) H) : uIsi K [(V.bl b), .ty "tuple"] H Q := x_isiV rfl (by decide +kernel) q
theorem x_isiBl_dict {b : Bool} (q : Q (.bl false) H) : uIsi K [(V.bl b), .ty "dict"] H Q := x_isiV rfl (by decide +kernel) q
theorem x_isiInt_int (q : Q (.bl true) H) : uIsi K [(V.int n), .ty "int"] H Q := x_isiV rfl (by decide +kernel) q
theorem x_isiInt_bool (q : Q (.bl false) H) : uIsi K [(V.int n), .ty "bool"] H Q := x_isiV rfl (by decide +kernel) q
theorem x_isiInt_str (q : Q (.bl false) H) : uIsi K [(V.int n), .ty "str"] H Q := x_isiV rfl (by decide +kernel) q
theorem x_isiInt_list (q : Q (.bl false) H) : uIsi K [(V.int n), .ty "list"] H Q := x_isiV rfl (by decide +kernel) q
theorem x_isiInt_tuple (q : Q (.bl false) H) : uIsi K [(V.int n), .ty "tuple"] H Q := x_isiV rfl (by decide +kernel) q
theorem x_isiInt_dict (q : Q (.bl false) H) : uIsi K [(V.int n), .ty "dict"] H Q := x_isiV rfl (by decide +kernel) q
theorem x_isiStr_int {z : Str} (q : Q (.bl false) H) : uIsi K [(V.str z), .ty "int"] H Q := x_isiV rfl (by decide +kernel) q
theorem x_isiStr_bool {z : Str} (q : Q (.bl false) H) : uIsi K [(V.str z), .ty "bool"] H Q := x_isiV rfl (by decide +kernel) q
theorem x_isiStr_str {z : Str} (q : Q (.bl true) H) : uIsi K [(V.str z), .ty "str"] H Q := x_isiV rfl (by decide +kernel) q
theorem x_isiStr_list {z : Str} (q : Q (.bl false) H) : uIsi K [(V.str z), .ty "list"] H Q := x_isiV rfl (by decide +kernel) q
theorem x_isiStr_tuple {z : Str} (q : Q (.bl false) H) : uIsi K [(V.str z), .ty "tuple"] H Q := x_isiV rfl (by decide +kernel) q
theorem x_isiStr_dict {z : Str} (q : Q (.bl false) H) : uIsi K [(V.str z), .ty "dict"] H Q := x_isiV rfl (by decide +kernel) q
theorem x_isiLst_int (h : H p = some (.lst xs)) (q : Q (.bl false) H) : uIsi K [.ref p, .ty "int"] H Q := x_isiR (.base (.lst h)) (by decide +kernel) q
theorem x_isiLst_bool (h : H p = some (.lst xs)) (q : Q (.bl false) H) : uIsi K [.ref p, .ty "bool"] H Q := x_isiR (.base (.lst h)) (by decide +kernel) q
theorem x_isiLst_str (h : H p = some (.lst xs)) (q : Q (.bl false) H) : uIsi K [.ref p, .ty "str"] H Q := x_isiR (.base (.lst h)) (by decide +kernel) q
theorem x_isiLst_list (h : H p = some (.lst xs)) (q : Q (.bl true) H) : uIsi K [.ref p, .ty "list"] H Q := x_isiR (.base (.lst h)) (by decide +kernel) q
theorem x_isiLst_tuple (h : H p = some (.lst xs)) (q : Q (.bl false) H) : uIsi K [.ref p, .ty "tuple"] H Q := x_isiR (.base (.lst h)) (by decide +kernel) q
theorem x_isiLst_dict (h : H p = some (.lst xs)) (q : Q (.bl false) H) : uIsi K [.ref p, .ty "dict"] H Q := x_isiR (.base (.lst h)) (by decide +kernel) q
theorem x_isiTup_int (h : H p = some (.tup xs)) (q : Q (.bl false) H) : uIsi K [.ref p, .ty "int"] H Q := x_isiR (.base (.tup h)) (by decide +kernel) q
theorem x_isiTup_bool (h : H p = some (.tup xs)) (q : Q (.bl false) H) : uIsi K [.ref p, .ty "bool"] H Q := x_isiR (.base (.tup h)) (by decide +kernel) q
theorem x_isiTup_str (h : H p = some (.tup xs)) (q : Q (.bl false) H) : uIsi K [.ref p, .ty "str"] H Q := x_isiR (.base (.tup h)) (by decide +kernel) q
theorem x_isiTup_list (h : H p = some (.tup xs)) (q : Q (.bl false) H) : uIsi K [.ref p, .ty "list"] H Q := x_isiR (.base (.tup h)) (by decide +kernel) q
theorem x_isiTup_tuple (h : H p = some (.tup xs)) (q : Q (.bl true) H) : uIsi K [.ref p, .ty "tuple"] H Q := x_isiR (.base (.tup h)) (by decide +kernel) q
theorem x_isiTup_dict (h : H p = some (.tup xs)) (q : Q (.bl false) H) : uIsi K [.ref p, .ty "dict"] H Q := x_isiR (.base (.tup h)) (by decide +kernel) q
theorem x_isiDk_int {kvs : List (Key × V)} (h : H p = some (.dK kvs)) (q : Q (.bl false) H) : uIsi K [.ref p, .ty "int"] H Q := x_isiR (.base (.dK h)) (by decide +kernel) q
theorem x_isiDk_bool {kvs : List (Key × V)} (h : H p = some (.dK kvs)) (q : Q (.bl false) H) : uIsi K [.ref p, .ty "bool"] H Q := x_isiR (.base (.dK h)) (by decide +kernel) q
theorem x_isiDk_str {kvs : List (Key × V)} (h : H p = some (.dK kvs)) (q : Q (.bl false) H) : uIsi K [.ref p, .ty "str"] H Q := x_isiR (.base (.dK h)) (by decide +kernel) q
theorem x_isiDk_list {kvs : List (Key × V)} (h : H p = some (.dK kvs)) (q : Q (.bl false) H) : uIsi K [.ref p, .ty "list"] H Q := x_isiR (.base (.dK h)) (by decide +kernel) q
theorem x_isiDk_tuple {kvs : List (Key × V)} (h : H p = some (.dK kvs)) (q : Q (.bl false) H) : uIsi K [.ref p, .ty "tuple"] H Q := x_isiR (.base (.dK h)) (by decide +kernel) q
theorem x_isiDk_dict {kvs : List (Key × V)} (h : H p = some (.dK kvs)) (q : Q (.bl true) H) : uIsi K [.ref p, .ty "dict"] H Q := x_isiR (.base (.dK h)) (by decide +kernel) q
theorem x_intB {b : Bool} (q : Q (.int (if b then 1 else 0)) H) : uInt [.bl b] H Q := .inr ⟨b, rfl, q⟩
theorem x_intI {m : Int} (q : Q (.int m) H) : uInt [.int m] H Q := .inl ⟨m, rfl, q⟩
theorem x_max2 {m n : Int} (q : Q (.int (if n > m then n else m)) H) : uMax K [.int m, .int n] H Q := .inl ⟨m, n, rfl, q⟩
theorem x_min2 {m n : Int} (q : Q (.int (if n < m then n else m)) H) : uMin K [.int m, .int n] H Q := .inl ⟨m, n, rfl, q⟩
theorem x_list (h : SqL K H p xs) (q : New H Q (.lst xs)) : uList K [.ref p] H Q := .inl ⟨p, xs, rfl, .inl h, q.mk⟩
theorem x_tupL (h : SqL K H p xs) (q : New H Q (.tup xs)) : uTup K [.ref p] H Q := ⟨_, rfl, .inl ⟨p, xs, rfl, h, q.mk⟩⟩
theorem x_listD {kvs : List (L2.Key × V)} (h : H p = some (.dK kvs)) (q : New H Q (.lst (kvs.map fun kv => kV kv.1))) : uList K [.ref p] H Q := .inr ⟨p, kvs, rfl, h, q.mk⟩
theorem x_lenD {kvs : List (L2.Key × V)} (h : H p = some (.dK kvs)) (q : Q (.int kvs.length) H) : uLen K [.ref p] H Q := .inr (.inr ⟨p, kvs, rfl, h, q⟩)
theorem x_str (q : Q (.str (toString n)) H) (h : n.natAbs.log2 < 1920) : uStr [.int n] H Q := ⟨n, rfl, h, q⟩
end
/-! ### the same rules where K is told (inside a comprehension) -/
section
variable {X : Cx} {K : PySem.W.Frag} {a b e : Expr} {rest : List Expr} {ta tb : TE} {pos : Pos} {f : Str}
theorem K_ix (hK : X.K = K := by rfl) : IxR X (rIx K) := hK ▸ ix_seq
theorem K_sl (hK : X.K = K := by rfl) : SlR X (rSlL K) := hK ▸ sl_u
theorem K_add (hK : X.K = K := by rfl) : OpR X (binaryOp .Add) (uAdd K) := hK ▸ op_uAdd
theorem K_eq (hu : X.A.units + 64 < cLine) (hK : X.K = K := by rfl) : OpR X (compareOp .Eq) (uEq K) := hK ▸ op_uEq hu
theorem K_ne (hu : X.A.units + 64 < cLine) (hK : X.K = K := by rfl) : OpR X (compareOp .NotEq) (uNe K) := hK ▸ op_uNe hu
theorem K_in (hK : X.K = K := by rfl) : OpR X (compareOp .In) (uIn K) := hK ▸ op_uIn
theorem K_notIn (hK : X.K = K := by rfl) : OpR X (compareOp .NotIn) (uNotIn K) := hK ▸ op_uNotIn
theorem K_fld (he : PE X e ta) (hb : attributeBase e f X.env (eval e X.env) = eval e X.env) (hK : X.K = K := by rfl) : PE X (.Attribute e f pos) (tFld K ta f) := hK ▸ pe_fld he hb
theorem K_orT (ha : PE X a ta) (hb : PE X (.BoolOp .Or (b :: rest) pos) tb) (hK : X.K = K := by rfl) : PE X (.BoolOp .Or (a :: b :: rest) pos) (tOrT K ta tb) := hK ▸ pe_orT ha hb
theorem K_andT (ha : PE X a ta) (hb : PE X (.BoolOp .And (b :: rest) pos) tb) (hK : X.K = K := by rfl) : PE X (.BoolOp .And (a :: b :: rest) pos) (tAndT K ta tb) := hK ▸ pe_andT ha hb
theorem K_notT (ha : PE X a ta) (hK : X.K = K := by rfl) : PE X (.UnaryOp .Not a pos) (tNotT K ta) := hK ▸ pe_notT ha
theorem K_ulen (hK : X.K = K := by rfl) : CallR X (.builtin "len") (uLen K) := hK ▸ cr_ulen
theorem K_umax (hc : X.calm = true := by rfl) (hK : X.K = K := by rfl) : CallR X (.builtin "max") (uMax K) := hK ▸ cr_umax hc
theorem K_umin (hc : X.calm = true := by rfl) (hK : X.K = K := by rfl) : CallR X (.builtin "min") (uMin K) := hK ▸ cr_umin hc
theorem K_usum (hc : X.calm = true := by rfl) (hK : X.K = K := by rfl) : CallR X (.builtin "sum") (rSum K) := hK ▸ cr_usum hc
theorem K_uisinstance (hK : X.K = K := by rfl) : CallR X (.builtin "isinstance") (uIsi K) := hK ▸ cr_uisinstance
theorem K_list (hK : X.K = K := by rfl) (hc : X.calm = true := by rfl) : CallR X (.type "list") (uList K) := hK ▸ ct_list hc
theorem K_methD {P : Program} {w : World} {mg : Str → Option Value} {base : Heap} {k : Nat} {E : L2.St → XK} {m : Str} {pos apos : Pos} {e o : Expr} {es : List Expr} {t : TA} {pl : Sem Bool} (he : PE X o ta) (hr : Room k X.A) (hx : ∀ σ, PassesAt (L2.CX P w) X σ (E σ)) (ha : PA X (e :: es) t)
    (hst : starEach (e :: es) X.env = (false, eval e X.env) :: starEach es X.env := by rfl) (hpl : (backTo pos (starEach es X.env)).any (·.1) = false := by rfl)
    (ht : eval (.Call (.Attribute o m apos) (e :: es) [] pos) X.env = (do
      let ov ← eval o X.env
      standAt apos.atName
      let (f, first) ← holding [ov] (getMethod ov m pl)
      callWith pos f first (backTo pos (starEach (e :: es) X.env)) (backToKw pos (keywordEach [] X.env))) := by rfl)
    (h1 : X.prog = P := by rfl) (h2 : X.w = w := by rfl) (h3 : X.K = K := by rfl) (h4 : X.mg = mg := by rfl) (h5 : X.base = base := by rfl) :
    PE X (.Call (.Attribute o m apos) (e :: es) [] pos) (tMethD P w K mg base (L2.CX P w) k m E ta t) := by
  subst h1 h2 h3 h4 h5
  exact pe_methD he hr hx ha hst hpl ht
theorem K_methD0 {P : Program} {w : World} {mg : Str → Option Value} {base : Heap} {k : Nat} {E : L2.St → XK} {m : Str} {pos apos : Pos} {o : Expr} {pl : Sem Bool} (he : PE X o ta) (hr : Room k X.A) (hx : ∀ σ, PassesAt (L2.CX P w) X σ (E σ))
    (ht : eval (.Call (.Attribute o m apos) [] [] pos) X.env = (do
      let ov ← eval o X.env
      standAt apos.atName
      let (f, first) ← holding [ov] (getMethod ov m pl)
      callWith pos f first (backTo pos (starEach [] X.env)) (backToKw pos (keywordEach [] X.env))) := by rfl)
    (h1 : X.prog = P := by rfl) (h2 : X.w = w := by rfl) (h3 : X.K = K := by rfl) (h4 : X.mg = mg := by rfl) (h5 : X.base = base := by rfl) :
    PE X (.Call (.Attribute o m apos) [] [] pos) (tMethD P w K mg base (L2.CX P w) k m E ta tNil) := by
  subst h1 h2 h3 h4 h5
  exact pe_methD0 he hr hx ht
theorem K_truth (ha : PE X a ta) (he : ∀ whole, isTrue a X.env whole = (do let v ← whole; standAt a.pos; holding [v] (truthy v))) (hK : X.K = K := by rfl) : PT X a (fun σ H Q => ta σ H fun x H' => ∃ k, TruV K x H' k ∧ Q k H') := hK ▸ pt_truth ha he
end
end Kit

namespace My
open PySem L2 Kit

def top (i : Nat) : Stmt := PySem.Challenge.pw_wornpages_k08_whole_chip.main.body.getD i (.Pass ⟨0, 0, 0, 0⟩)
abbrev s_BlockFailed_init : Stmt := inClass (top 5) 0
abbrev N_BlockFailed_init : List Str := ["self", "block"]
theorem sc_BlockFailed_init : FnScope N_BlockFailed_init ["self", "block"] (defScope s_BlockFailed_init) := ⟨rfl, rfl, rfl, by decide +kernel, rfl, by decide +kernel, by decide +kernel⟩
abbrev s_NotClear_init : Stmt := inClass (top 6) 0
abbrev N_NotClear_init : List Str := ["self", "page"]
theorem sc_NotClear_init : FnScope N_NotClear_init ["self", "page"] (defScope s_NotClear_init) := ⟨rfl, rfl, rfl, by decide +kernel, rfl, by decide +kernel, by decide +kernel⟩
abbrev s_is_whole : Stmt := top 9
abbrev N_is_whole : List Str := ["thing"]
theorem sc_is_whole : FnScope N_is_whole ["thing"] (defScope s_is_whole) := ⟨rfl, rfl, rfl, by decide +kernel, rfl, by decide +kernel, by decide +kernel⟩
abbrev s_is_within : Stmt := top 10
abbrev N_is_within : List Str := ["thing", "low", "high"]
theorem sc_is_within : FnScope N_is_within ["thing", "low", "high"] (defScope s_is_within) := ⟨rfl, rfl, rfl, by decide +kernel, rfl, by decide +kernel, by decide +kernel⟩
abbrev s_endurance : Stmt := top 14
abbrev N_endurance : List Str := ["blocks", "ills", "found", "block", "good"]
theorem sc_endurance : FnScope N_endurance ["blocks", "ills"] (defScope s_endurance) := ⟨rfl, rfl, rfl, by decide +kernel, rfl, by decide +kernel, by decide +kernel⟩
abbrev s_Chip_init : Stmt := inClass (top 15) 0
abbrev N_Chip_init : List Str := ["self", "blocks", "pages", "most", "ills"]
abbrev dfl_Chip_init : List V := [V.int (1000000), V.non]
theorem sc_Chip_init : FnScope N_Chip_init ["self", "blocks", "pages", "most", "ills"] (defScope s_Chip_init) := ⟨rfl, rfl, rfl, by decide +kernel, rfl, by decide +kernel, by decide +kernel⟩
abbrev s_Chip_need_page : Stmt := inClass (top 15) 1
abbrev N_Chip_need_page : List Str := ["self", "page"]
theorem sc_Chip_need_page : FnScope N_Chip_need_page ["self", "page"] (defScope s_Chip_need_page) := ⟨rfl, rfl, rfl, by decide +kernel, rfl, by decide +kernel, by decide +kernel⟩
abbrev s_Chip_need_block : Stmt := inClass (top 15) 2
abbrev N_Chip_need_block : List Str := ["self", "block"]
theorem sc_Chip_need_block : FnScope N_Chip_need_block ["self", "block"] (defScope s_Chip_need_block) := ⟨rfl, rfl, rfl, by decide +kernel, rfl, by decide +kernel, by decide +kernel⟩
abbrev s_Chip_need_power : Stmt := inClass (top 15) 3
abbrev N_Chip_need_power : List Str := ["self"]
theorem sc_Chip_need_power : FnScope N_Chip_need_power ["self"] (defScope s_Chip_need_power) := ⟨rfl, rfl, rfl, by decide +kernel, rfl, by decide +kernel, by decide +kernel⟩
abbrev s_Chip_need_good : Stmt := inClass (top 15) 4
abbrev N_Chip_need_good : List Str := ["self", "block"]
theorem sc_Chip_need_good : FnScope N_Chip_need_good ["self", "block"] (defScope s_Chip_need_good) := ⟨rfl, rfl, rfl, by decide +kernel, rfl, by decide +kernel, by decide +kernel⟩
abbrev s_Chip_goes_well : Stmt := inClass (top 15) 5
abbrev N_Chip_goes_well : List Str := ["self", "block", "worn", "well"]
theorem sc_Chip_goes_well : FnScope N_Chip_goes_well ["self", "block", "worn"] (defScope s_Chip_goes_well) := ⟨rfl, rfl, rfl, by decide +kernel, rfl, by decide +kernel, by decide +kernel⟩
abbrev s_Chip_put : Stmt := inClass (top 15) 6
abbrev N_Chip_put : List Str := ["self", "page", "stuff", "block", "well"]
theorem sc_Chip_put : FnScope N_Chip_put ["self", "page", "stuff"] (defScope s_Chip_put) := ⟨rfl, rfl, rfl, by decide +kernel, rfl, by decide +kernel, by decide +kernel⟩
abbrev s_Chip_wipe : Stmt := inClass (top 15) 7
abbrev N_Chip_wipe : List Str := ["self", "block", "well", "place"]
theorem sc_Chip_wipe : FnScope N_Chip_wipe ["self", "block"] (defScope s_Chip_wipe) := ⟨rfl, rfl, rfl, by decide +kernel, rfl, by decide +kernel, by decide +kernel⟩
abbrev s_Chip_read : Stmt := inClass (top 15) 8
abbrev N_Chip_read : List Str := ["self", "page"]
theorem sc_Chip_read : FnScope N_Chip_read ["self", "page"] (defScope s_Chip_read) := ⟨rfl, rfl, rfl, by decide +kernel, rfl, by decide +kernel, by decide +kernel⟩
abbrev s_Chip_cut_after : Stmt := inClass (top 15) 9
abbrev N_Chip_cut_after : List Str := ["self", "deeds"]
theorem sc_Chip_cut_after : FnScope N_Chip_cut_after ["self", "deeds"] (defScope s_Chip_cut_after) := ⟨rfl, rfl, rfl, by decide +kernel, rfl, by decide +kernel, by decide +kernel⟩
abbrev s_Chip_power_on : Stmt := inClass (top 15) 10
abbrev N_Chip_power_on : List Str := ["self"]
theorem sc_Chip_power_on : FnScope N_Chip_power_on ["self"] (defScope s_Chip_power_on) := ⟨rfl, rfl, rfl, by decide +kernel, rfl, by decide +kernel, by decide +kernel⟩
abbrev s_Chip_is_dark : Stmt := inClass (top 15) 11
abbrev N_Chip_is_dark : List Str := ["self"]
theorem sc_Chip_is_dark : FnScope N_Chip_is_dark ["self"] (defScope s_Chip_is_dark) := ⟨rfl, rfl, rfl, by decide +kernel, rfl, by decide +kernel, by decide +kernel⟩
abbrev s_Chip_cleared : Stmt := inClass (top 15) 12
abbrev N_Chip_cleared : List Str := ["self", "block"]
theorem sc_Chip_cleared : FnScope N_Chip_cleared ["self", "block"] (defScope s_Chip_cleared) := ⟨rfl, rfl, rfl, by decide +kernel, rfl, by decide +kernel, by decide +kernel⟩
abbrev s_Chip_failed : Stmt := inClass (top 15) 13
abbrev N_Chip_failed : List Str := ["self", "block"]
theorem sc_Chip_failed : FnScope N_Chip_failed ["self", "block"] (defScope s_Chip_failed) := ⟨rfl, rfl, rfl, by decide +kernel, rfl, by decide +kernel, by decide +kernel⟩
abbrev s_Chip_deeds : Stmt := inClass (top 15) 14
abbrev N_Chip_deeds : List Str := ["self"]
theorem sc_Chip_deeds : FnScope N_Chip_deeds ["self"] (defScope s_Chip_deeds) := ⟨rfl, rfl, rfl, by decide +kernel, rfl, by decide +kernel, by decide +kernel⟩
abbrev s__law_cell_at : Stmt := top 17
abbrev N__law_cell_at : List Str := ["_law_script", "_law_k"]
theorem sc__law_cell_at : FnScope N__law_cell_at ["_law_script", "_law_k"] (defScope s__law_cell_at) := ⟨rfl, rfl, rfl, by decide +kernel, rfl, by decide +kernel, by decide +kernel⟩
abbrev s__law_mix : Stmt := top 18
abbrev N__law_mix : List Str := ["_law_cell", "_law_k", "_law_m"]
theorem sc__law_mix : FnScope N__law_mix ["_law_cell", "_law_k"] (defScope s__law_mix) := ⟨rfl, rfl, rfl, by decide +kernel, rfl, by decide +kernel, by decide +kernel⟩
abbrev s__law_put : Stmt := top 19
abbrev N__law_put : List Str := ["_law_chip_here", "_law_page", "_law_stuff", "_law_word", "_law_at", "e"]
theorem sc__law_put : FnScope N__law_put ["_law_chip_here", "_law_page", "_law_stuff"] (defScope s__law_put) := ⟨rfl, rfl, rfl, by decide +kernel, rfl, by decide +kernel, by decide +kernel⟩
abbrev s__law_wipe : Stmt := top 20
abbrev N__law_wipe : List Str := ["_law_chip_here", "_law_block", "_law_word", "_law_at", "e"]
theorem sc__law_wipe : FnScope N__law_wipe ["_law_chip_here", "_law_block"] (defScope s__law_wipe) := ⟨rfl, rfl, rfl, by decide +kernel, rfl, by decide +kernel, by decide +kernel⟩
abbrev s__law_read : Stmt := top 21
abbrev N__law_read : List Str := ["_law_chip_here", "_law_page", "_law_word", "_law_found"]
theorem sc__law_read : FnScope N__law_read ["_law_chip_here", "_law_page"] (defScope s__law_read) := ⟨rfl, rfl, rfl, by decide +kernel, rfl, by decide +kernel, by decide +kernel⟩
abbrev s__law_deed : Stmt := top 22
abbrev N__law_deed : List Str := ["_law_mine_here", "_law_word", "_law_at", "_law_block", "_law_fails"]
theorem sc__law_deed : FnScope N__law_deed ["_law_mine_here", "_law_word", "_law_at", "_law_block"] (defScope s__law_deed) := ⟨rfl, rfl, rfl, by decide +kernel, rfl, by decide +kernel, by decide +kernel⟩
abbrev s__law_due_put : Stmt := top 23
abbrev N__law_due_put : List Str := ["_law_mine_here", "_law_page", "_law_stuff", "_law_block"]
theorem sc__law_due_put : FnScope N__law_due_put ["_law_mine_here", "_law_page", "_law_stuff"] (defScope s__law_due_put) := ⟨rfl, rfl, rfl, by decide +kernel, rfl, by decide +kernel, by decide +kernel⟩
abbrev s__law_due_wipe : Stmt := top 24
abbrev N__law_due_wipe : List Str := ["_law_mine_here", "_law_block", "_law_place"]
theorem sc__law_due_wipe : FnScope N__law_due_wipe ["_law_mine_here", "_law_block"] (defScope s__law_due_wipe) := ⟨rfl, rfl, rfl, by decide +kernel, rfl, by decide +kernel, by decide +kernel⟩
abbrev s__law_due_read : Stmt := top 25
abbrev N__law_due_read : List Str := ["_law_mine_here", "_law_page"]
theorem sc__law_due_read : FnScope N__law_due_read ["_law_mine_here", "_law_page"] (defScope s__law_due_read) := ⟨rfl, rfl, rfl, by decide +kernel, rfl, by decide +kernel, by decide +kernel⟩
abbrev s__law_step : Stmt := top 26
abbrev N__law_step : List Str := ["_law_chip_here", "_law_mine_here", "_law_cell", "_law_k", "_law_page", "_law_stuff", "_law_block"]
theorem sc__law_step : FnScope N__law_step ["_law_chip_here", "_law_mine_here", "_law_cell", "_law_k"] (defScope s__law_step) := ⟨rfl, rfl, rfl, by decide +kernel, rfl, by decide +kernel, by decide +kernel⟩
abbrev s__law_ills : Stmt := top 27
abbrev N__law_ills : List Str := ["_law_cell", "_law_blocks", "_law_first", "_law_many", "_law_k"]
theorem sc__law_ills : FnScope N__law_ills ["_law_cell", "_law_blocks"] (defScope s__law_ills) := ⟨rfl, rfl, rfl, by decide +kernel, rfl, by decide +kernel, by decide +kernel⟩
abbrev s__law_end : Stmt := top 28
abbrev N__law_end : List Str := ["_law_chip_here", "_law_mine_here", "_law_block", "_law_failed", "_law_page"]
theorem sc__law_end : FnScope N__law_end ["_law_chip_here", "_law_mine_here"] (defScope s__law_end) := ⟨rfl, rfl, rfl, by decide +kernel, rfl, by decide +kernel, by decide +kernel⟩
abbrev s__law_chip : Stmt := top 29
abbrev N__law_chip : List Str := ["_law_blocks", "_law_pages", "_law_ills_here", "_law_most"]
theorem sc__law_chip : FnScope N__law_chip ["_law_blocks", "_law_pages", "_law_ills_here", "_law_most"] (defScope s__law_chip) := ⟨rfl, rfl, rfl, by decide +kernel, rfl, by decide +kernel, by decide +kernel⟩
abbrev s__law_mine : Stmt := top 30
abbrev N__law_mine : List Str := ["_law_blocks", "_law_pages", "_law_ills_here", "_law_most", "_law_mine_here", "_law_block", "_law_good"]
theorem sc__law_mine : FnScope N__law_mine ["_law_blocks", "_law_pages", "_law_ills_here", "_law_most"] (defScope s__law_mine) := ⟨rfl, rfl, rfl, by decide +kernel, rfl, by decide +kernel, by decide +kernel⟩
abbrev s_law : Stmt := top 31
abbrev N_law : List Str := ["_law_script", "_law_blocks", "_law_pages", "_law_ills_here", "_law_most", "_law_chip_here", "_law_beside", "_law_mine_here", "_law_first", "_law_kept", "_law_k"]
theorem sc_law : FnScope N_law ["_law_script"] (defScope s_law) := ⟨rfl, rfl, rfl, by decide +kernel, rfl, by decide +kernel, by decide +kernel⟩
/-! steps of a reading: "s" one step, "go" as far as it goes -/
local macro_rules | `(tactic| walk_at "sq") => `(tactic| first | assumption | exact SqL.of (by assumption) | exact SqT.of (by assumption) | (refine' Same.seq ?hsm ?hsq; (case hsm => assumption); (case hsq => walk_at "sq")) | (refine' SqL.of ?hhq; (case hhq => walk_at "hp")) | (refine SqT.of ?_; walk_at "hp"))
local macro_rules | `(tactic| walk_at "hp") => `(tactic| first | assumption | (refine' (show Same _ _ by assumption) _ _ ?hhp; (case hhp => walk_at "hp")))
local macro_rules | `(tactic| walk_at "nin") => `(tactic| first | exact nin_of (by assumption) | exact nin_of (Ne.symm (by assumption)))
local macro_rules | `(tactic| walk_at "off") => `(tactic| first | exact Off.refl | exact Off.of (by assumption) | exact Off.sub (by assumption) (by intro b hb; rw [List.mem_singleton] at hb; subst hb; simp) | (refine Off.trans ?_ (Off.of (by assumption)); walk_at "off") | (refine Off.trans ?_ (Off.sub (by assumption) (by intro b hb; rw [List.mem_singleton] at hb; subst hb; simp)); walk_at "off") | (refine Off.trans ?_ (by assumption); walk_at "off"))
local macro_rules | `(tactic| walk_at "hp") => `(tactic| first | assumption | (refine' Off.at ?hO1 ?hO3 ?hO2; (case hO1 => assumption); (case hO2 => walk_at "nin"); (case hO3 => walk_at "hp")) | (refine' Off.lst ?hO1 ?hO2 ?hO3; (case hO1 => assumption); (case hO2 => assumption); (case hO3 => walk_at "hp")) | (refine' (show Same _ _ by assumption) _ _ ?hhp; (case hhp => walk_at "hp")))
local macro_rules | `(tactic| walk_at "nn") => `(tactic| (refine' ne_of_none ?nna ?nnb; (case nnb => assumption); (case nna => walk_at "hp")))
local macro_rules | `(tactic| walk_at "side") => `(tactic| first | assumption | decide | omega | exact ⟨by decide, by decide, by decide⟩ | exact ⟨by decide, by decide +kernel⟩ | exact Or.inr ⟨by decide, by decide⟩ | exact ⟨by omega, by omega⟩ | exact Or.inl ⟨by omega, by omega⟩ | exact Or.inr ⟨by omega, by omega⟩ | exact cdivW (by omega) (by omega) | (simp only [List.length_cons, List.length_nil, List.length_append, Nat.zero_add, Nat.reduceAdd, Nat.reduceMul]; decide) | (simp only [List.length_append, List.length_cons, List.length_nil, List.length_map]; omega) | (simp; done))
local macro_rules | `(tactic| walk_at "isi") => `(tactic| first
  | with_reducible refine x_isiNon_int ?_
  | with_reducible refine x_isiNon_bool ?_
  | with_reducible refine x_isiNon_str ?_
  | with_reducible refine x_isiNon_list ?_
  | with_reducible refine x_isiNon_tuple ?_
  | with_reducible refine x_isiNon_dict ?_
  | with_reducible refine x_isiBl_int ?_
  | with_reducible refine x_isiBl_bool ?_
  | with_reducible refine x_isiBl_str ?_
  | with_reducible refine x_isiBl_list ?_
  | with_reducible refine x_isiBl_tuple ?_
  | with_reducible refine x_isiBl_dict ?_
  | with_reducible refine x_isiInt_int ?_
  | with_reducible refine x_isiInt_bool ?_
  | with_reducible refine x_isiInt_str ?_
  | with_reducible refine x_isiInt_list ?_
  | with_reducible refine x_isiInt_tuple ?_
  | with_reducible refine x_isiInt_dict ?_
  | with_reducible refine x_isiStr_int ?_
  | with_reducible refine x_isiStr_bool ?_
  | with_reducible refine x_isiStr_str ?_
  | with_reducible refine x_isiStr_list ?_
  | with_reducible refine x_isiStr_tuple ?_
  | with_reducible refine x_isiStr_dict ?_
  | with_reducible refine x_isiLst_int (by assumption) ?_
  | with_reducible refine x_isiLst_bool (by assumption) ?_
  | with_reducible refine x_isiLst_str (by assumption) ?_
  | with_reducible refine x_isiLst_list (by assumption) ?_
  | with_reducible refine x_isiLst_tuple (by assumption) ?_
  | with_reducible refine x_isiLst_dict (by assumption) ?_
  | with_reducible refine x_isiTup_int (by assumption) ?_
  | with_reducible refine x_isiTup_bool (by assumption) ?_
  | with_reducible refine x_isiTup_str (by assumption) ?_
  | with_reducible refine x_isiTup_list (by assumption) ?_
  | with_reducible refine x_isiTup_tuple (by assumption) ?_
  | with_reducible refine x_isiTup_dict (by assumption) ?_
  | with_reducible refine x_isiDk_int (by assumption) ?_
  | with_reducible refine x_isiDk_bool (by assumption) ?_
  | with_reducible refine x_isiDk_str (by assumption) ?_
  | with_reducible refine x_isiDk_list (by assumption) ?_
  | with_reducible refine x_isiDk_tuple (by assumption) ?_
  | with_reducible refine x_isiDk_dict (by assumption) ?_)
local macro_rules | `(tactic| walk_at "s") => `(tactic| first
  | walk_at "u"
  | with_reducible refine x_seqA ?_
  | with_reducible refine x_seqD ?_
  | with_reducible refine x_seqF ?_
  | with_reducible refine x_seqFA ?_
  | with_reducible refine x_seqAug ?_
  | with_reducible refine x_asg ?_
  | ((with_reducible refine' x_var ?hv ?_); case hv => exact rfl)
  | with_reducible refine x_c ?_
  | with_reducible refine x_op ?_
  | with_reducible refine x_cb ?_
  | with_reducible refine x_cons ?_
  | with_reducible refine x_nil ?_
  | ((with_reducible refine x_gname ?_); (try dsimp only [List.set]))
  | with_reducible refine x_if ?_
  | with_reducible refine x_ret ?_
  | with_reducible refine x_test ?_
  | ((with_reducible refine x_isbl ?_); try dsimp only)
  | ((with_reducible refine x_truBl ?_); try dsimp only)
  | with_reducible refine x_callS ?_
  | with_reducible refine x_iteT ?_
  | with_reducible refine x_iteF ?_
  | with_reducible refine x_iteN ?_
  | with_reducible refine x_I0 ?_
  | with_reducible refine x_addI ?_
  | with_reducible refine x_lt ?_
  | ((with_reducible refine x_pow ?_ ?hs); (try (case hs => walk_at "side")); (try simp only [Int.reduceToNat]))
  | ((with_reducible refine x_I ?_ ?hs); (try (case hs => walk_at "side")))
  | ((with_reducible refine x_mulI ?_ ?hs); (case hs => walk_at "side"))
  | ((with_reducible refine x_mulU ?_ ?hs); (try (case hs => walk_at "side")))
  | with_reducible refine x_eqI ?_
  | with_reducible refine x_neI ?_
  | with_reducible refine x_eqB ?_
  | with_reducible refine x_neB ?_
  | with_reducible refine x_eqS ?_
  | with_reducible refine x_andT ?_
  | with_reducible refine x_orT ?_
  | with_reducible refine x_notT ?_
  | with_reducible refine x_and ?_
  | with_reducible refine x_or ?_
  | with_reducible refine x_not ?_
  | with_reducible refine x_chain ?_
  | with_reducible refine x_tB ?_
  | with_reducible refine x_tup ?_
  | with_reducible refine x_lst ?_
  | with_reducible refine x_un ?_
  | ((with_reducible refine x_nwL ?_ ?hs); (try (case hs => walk_at "side")); intro p H1 hp hs hn)
  | ((with_reducible refine x_nwT ?_ ?hs); (try (case hs => walk_at "side")); intro p H1 hp hs hn)
  | ((with_reducible refine' x_addL ?h1 ?h2 ?_ ?hs); (case h1 => walk_at "hp"); (case h2 => walk_at "hp"); (try (case hs => walk_at "side")); intro p H1 hp hs hn)
  | ((with_reducible refine' x_rep1 ?h1 ?_ ?h0); (case h1 => walk_at "hp"); (try (case h0 => walk_at "side")); intro p H1 hp hs hn)
  | ((with_reducible refine' x_rep ?h1 ?_ ?h2 ?h0 ?hs); (case h1 => walk_at "hp"); (try (case h2 => walk_at "side")); (try (case h0 => walk_at "side")); (try (case hs => walk_at "side")); intro p H1 hp hs hn)
  | ((with_reducible refine' x_addS ?_ ?hs); (try (case hs => walk_at "side")))
  | with_reducible refine x_U ?_
  | with_reducible refine x_drop ?_
  | with_reducible refine x_retN ?_
  | ((with_reducible refine x_next ?_); try dsimp only)
  | with_reducible refine x_ifExp ?_
  | ((with_reducible refine' x_lenM ?hq ?_); case hq => walk_at "sq")
  | ((with_reducible refine' x_lenL ?hq ?_); case hq => walk_at "sq")
  | ((with_reducible refine' x_lenD ?hq ?_); case hq => walk_at "hp")
  | ((with_reducible refine' x_lenT ?hq ?_); case hq => walk_at "sq")
  | ((with_reducible refine' x_ixH ?hq ?_); (case hq => walk_at "sq"))
  | ((with_reducible refine' x_ixS ?hq ?ha ?_); (case hq => walk_at "sq"); (case ha => first | assumption | exact rfl))
  | ((with_reducible refine' x_ixI ?hq ?_ ?h0 ?h1); (case hq => walk_at "sq"); (try (case h0 => walk_at "side")); (try (case h1 => walk_at "side")))
  | ((with_reducible refine' x_ixB ?hq ?_ ?h0 ?h1); (case hq => walk_at "sq"); (try (case h0 => walk_at "side")); (try (case h1 => walk_at "side")))
  | ((with_reducible refine' x_ixL ?hq ?_ ?h0 ?h1); (case hq => walk_at "sq"); (try (case h0 => walk_at "side")); (try (case h1 => walk_at "side")))
  | ((with_reducible refine' x_ixT ?hq ?ha ?_); (case hq => walk_at "sq"); case ha => exact rfl)
  | walk_at "isi"
  | with_reducible refine x_bm ?_
  | ((with_reducible refine' x_bmL ?hq ?_); (case hq => walk_at "sq"))
  | with_reducible refine x_bm0 ?_
  | ((with_reducible refine' x_bm0L ?hq ?_); (case hq => walk_at "sq"))
  | ((with_reducible refine' x_append ?ho ?_ ?hl); (case ho => walk_at "hp"); (try (case hl => walk_at "side")))
  | ((with_reducible refine' x_clear ?ho ?_); (case ho => walk_at "hp"))
  | with_reducible refine x_slice ?_
  | with_reducible refine x_noPart ?_
  | with_reducible refine x_part ?_
  | with_reducible refine x_ptK ?_
  | ((with_reducible refine' x_slL ?hq ?_); (case hq => walk_at "sq"); intro p H1 hp hs hn)
  | with_reducible refine x_forL ?_
  | with_reducible refine x_forT ?_
  | with_reducible refine x_forS ?_
  | with_reducible refine x_forR1 ?_
  | with_reducible refine x_forR2 ?_
  | with_reducible refine x_forEn ?_
  | with_reducible refine x_forZ ?_
  | with_reducible refine x_lcL ?_
  | with_reducible refine x_lcR1 ?_
  | with_reducible refine x_lcR2 ?_
  | with_reducible refine x_yes ?_
  | ((with_reducible refine x_mk0 ?_); intro p dp H1 hp hdp hne hs hn hd)
  | with_reducible refine x_mkS ?_
  | ((with_reducible refine x_mkK ?_); intro p dp H1 hp hdp hne hs hn hd)
  | with_reducible refine x_methD ?_
  | with_reducible refine x_fldAug ?_
  | with_reducible refine x_dget ?_
  | ((with_reducible refine' x_dgS ?ho ?hv ?_); (case ho => walk_at "hp"); (case hv => exact rfl); (try dsimp only))
  | with_reducible refine x_dput ?_
  | with_reducible refine x_seqDP ?_
  | with_reducible refine x_prN ?_
  | with_reducible refine x_prC ?_
  | ((with_reducible refine x_disp ?_); intro p H1 hp hs hn)
  | ((with_reducible refine x_dnew ?_); intro p H1 hp hs hn)
  | with_reducible refine x_din ?_
  | with_reducible refine x_dget1 ?_
  | with_reducible refine x_dsetd ?_
  | with_reducible refine x_dpop1 ?_
  | with_reducible refine x_dpop2 ?_
  | ((with_reducible refine' x_dinI ?ho ?_); (case ho => walk_at "hp"))
  | ((with_reducible refine' x_dg1K ?ho ?_); (case ho => walk_at "hp"))
  | ((with_reducible refine' x_dg1I ?ho ?_); (case ho => walk_at "hp"))
  | ((with_reducible refine' x_dsK ?ho ?_); (case ho => walk_at "hp"))
  | ((with_reducible refine' x_dpp1K ?ho ?_); (case ho => walk_at "hp"))
  | ((with_reducible refine' x_dpp2K ?ho ?_); (case ho => walk_at "hp"))
  | with_reducible refine x_augS ?_
  | with_reducible refine x_seqAS ?_
  | with_reducible refine x_rSub ?_
  | ((with_reducible refine' x_getI ?hq ?_ ?h0 ?h1); (case hq => walk_at "sq"); (try (case h0 => walk_at "side")); (try (case h1 => walk_at "side")))
  | ((with_reducible refine' x_getL ?hq ?_ ?h0 ?h1); (case hq => walk_at "sq"); (try (case h0 => walk_at "side")); (try (case h1 => walk_at "side")))
  | with_reducible refine x_gsub ?_
  | ((with_reducible refine' x_setL ?ho ?_ ?h0 ?h1); (case ho => walk_at "hp"); (try (case h0 => walk_at "side")); (try (case h1 => walk_at "side")); intro H1 hO hI; (try dsimp only))
  | ((with_reducible refine' x_sfN ?ho ?hf ?_ ?hc ?hn ?hl); (case ho => walk_at "hp"); (case hf => exact rfl); (case hc => walk_at "cls"); (case hn => walk_at "na"); (case hl => exact Nat.le_of_ble_eq_true rfl); intro H1 hO hI; (dsimp only [List.cons_append, List.nil_append] at hI); (try dsimp only))
  | ((with_reducible refine' x_fldK ?ho ?hf ?_ ?hc ?hn); (case ho => walk_at "hp"); (case hf => exact rfl); (case hc => walk_at "cls"); (case hn => walk_at "na"))
  | ((with_reducible refine' x_aug ?hv ?_); case hv => exact rfl)
  | ((with_reducible refine x_ipI ?_); (try dsimp only [List.set]))
  | with_reducible refine x_rAdd ?_
  | with_reducible refine x_isB ?_
  | with_reducible refine x_isNotB ?_
  | with_reducible refine x_isN ?_
  | with_reducible refine x_isNotN ?_
  | ((with_reducible refine' x_inI ?hq ?_); (case hq => walk_at "sq"))
  | ((with_reducible refine' x_notInI ?hq ?_); (case hq => walk_at "sq"))
  | ((with_reducible refine x_intB ?_); try dsimp only)
  | with_reducible refine x_intI ?_
  | with_reducible refine x_raise ?_
  | with_reducible refine x_seqR ?_
  | with_reducible refine x_mkE ?_
  | with_reducible refine x_try1 ?_
  | with_reducible refine x_seqT1 ?_
  | with_reducible refine x_tryA ?_
  | with_reducible refine x_seqTA ?_
  | with_reducible refine x_tryM ?_
  | with_reducible refine x_seqTM ?_
  | with_reducible refine x_mix ?_
  | with_reducible refine x_seqMix ?_
  | with_reducible refine x_xf ?_
  | with_reducible refine x_mkO ?_
  | with_reducible refine x_vei ?_
  | with_reducible refine x_fld ?_
  | with_reducible refine x_sfld ?_
  | ((with_reducible refine' x_gtup2 ?hq ?_); (case hq => walk_at "sq"); (try dsimp only [List.set]))
  | with_reducible refine x_max2 ?_
  | with_reducible refine x_min2 ?_
  | ((with_reducible refine' x_list ?hq ?_); (case hq => walk_at "sq"); intro p H1 hp hs hn)
  | ((with_reducible refine' x_tupL ?hq ?_); (case hq => walk_at "sq"); intro p H1 hp hs hn)
  | ((with_reducible refine' x_listD ?hq ?_); (case hq => walk_at "hp"); intro p H1 hp hs hn)
  | ((with_reducible refine x_shl ?_ ?hs); (try (case hs => walk_at "side")))
  | ((with_reducible refine x_str ?_ ?hs); (try (case hs => walk_at "side"))))
local macro_rules | `(tactic| walk_at "go") => `(tactic| repeat walk_at "s")
local macro_rules | `(tactic| walk_at "begin") => `(tactic| simp only [cxOf, L2.start, List.map, List.length_cons, List.length_nil, List.replicate, Nat.reduceAdd, Nat.reduceSub, List.cons_append, List.nil_append])
local macro_rules | `(tactic| walk_at "if") => `(tactic| ((with_reducible refine x_seq ?_); repeat walk_at "s"))


--#LAWSPEC 8

structure Txt (K : PySem.W.Frag) (mg : Str → Option Value) where
  a_BlockFailed_init : Addr
  fd_BlockFailed_init : FuncData
  F_BlockFailed_init : Fun K "__init__" "BlockFailed.__init__" s_BlockFailed_init a_BlockFailed_init fd_BlockFailed_init
  bd_BlockFailed_init : Binds K fd_BlockFailed_init ["self", "block"] []
  k_BlockFailed_init : PySem.W.keepIn K (.ref a_BlockFailed_init) = true
  a_NotClear_init : Addr
  fd_NotClear_init : FuncData
  F_NotClear_init : Fun K "__init__" "NotClear.__init__" s_NotClear_init a_NotClear_init fd_NotClear_init
  bd_NotClear_init : Binds K fd_NotClear_init ["self", "page"] []
  k_NotClear_init : PySem.W.keepIn K (.ref a_NotClear_init) = true
  a_is_whole : Addr
  fd_is_whole : FuncData
  F_is_whole : Fun K "is_whole" "is_whole" s_is_whole a_is_whole fd_is_whole
  bd_is_whole : Binds K fd_is_whole ["thing"] []
  k_is_whole : PySem.W.keepIn K (.ref a_is_whole) = true
  g_is_whole : mg "is_whole" = some (.ref a_is_whole)
  a_is_within : Addr
  fd_is_within : FuncData
  F_is_within : Fun K "is_within" "is_within" s_is_within a_is_within fd_is_within
  bd_is_within : Binds K fd_is_within ["thing", "low", "high"] []
  k_is_within : PySem.W.keepIn K (.ref a_is_within) = true
  g_is_within : mg "is_within" = some (.ref a_is_within)
  a_endurance : Addr
  fd_endurance : FuncData
  F_endurance : Fun K "endurance" "endurance" s_endurance a_endurance fd_endurance
  bd_endurance : Binds K fd_endurance ["blocks", "ills"] []
  k_endurance : PySem.W.keepIn K (.ref a_endurance) = true
  g_endurance : mg "endurance" = some (.ref a_endurance)
  a_Chip_init : Addr
  fd_Chip_init : FuncData
  F_Chip_init : FunD K "__init__" "Chip.__init__" (defArgs s_Chip_init) (defBody s_Chip_init) (defScope s_Chip_init) dfl_Chip_init [] a_Chip_init fd_Chip_init
  ds0_Chip_init : List Value
  dv0_Chip_init : Vals (dfl_Chip_init.drop 2) ds0_Chip_init
  bd0_Chip_init : Binds K fd_Chip_init ["self", "blocks", "pages", "most", "ills"] ds0_Chip_init
  ds2_Chip_init : List Value
  dv2_Chip_init : Vals (dfl_Chip_init.drop 0) ds2_Chip_init
  bd2_Chip_init : Binds K fd_Chip_init ["self", "blocks", "pages", "most", "ills"] ds2_Chip_init
  ds1_Chip_init : List Value
  dv1_Chip_init : Vals (dfl_Chip_init.drop 1) ds1_Chip_init
  bd1_Chip_init : Binds K fd_Chip_init ["self", "blocks", "pages", "most", "ills"] ds1_Chip_init
  k_Chip_init : PySem.W.keepIn K (.ref a_Chip_init) = true
  a_Chip_need_page : Addr
  fd_Chip_need_page : FuncData
  F_Chip_need_page : Fun K "need_page" "Chip.need_page" s_Chip_need_page a_Chip_need_page fd_Chip_need_page
  bd_Chip_need_page : Binds K fd_Chip_need_page ["self", "page"] []
  k_Chip_need_page : PySem.W.keepIn K (.ref a_Chip_need_page) = true
  a_Chip_need_block : Addr
  fd_Chip_need_block : FuncData
  F_Chip_need_block : Fun K "need_block" "Chip.need_block" s_Chip_need_block a_Chip_need_block fd_Chip_need_block
  bd_Chip_need_block : Binds K fd_Chip_need_block ["self", "block"] []
  k_Chip_need_block : PySem.W.keepIn K (.ref a_Chip_need_block) = true
  a_Chip_need_power : Addr
  fd_Chip_need_power : FuncData
  F_Chip_need_power : Fun K "need_power" "Chip.need_power" s_Chip_need_power a_Chip_need_power fd_Chip_need_power
  bd_Chip_need_power : Binds K fd_Chip_need_power ["self"] []
  k_Chip_need_power : PySem.W.keepIn K (.ref a_Chip_need_power) = true
  a_Chip_need_good : Addr
  fd_Chip_need_good : FuncData
  F_Chip_need_good : Fun K "need_good" "Chip.need_good" s_Chip_need_good a_Chip_need_good fd_Chip_need_good
  bd_Chip_need_good : Binds K fd_Chip_need_good ["self", "block"] []
  k_Chip_need_good : PySem.W.keepIn K (.ref a_Chip_need_good) = true
  a_Chip_goes_well : Addr
  fd_Chip_goes_well : FuncData
  F_Chip_goes_well : Fun K "goes_well" "Chip.goes_well" s_Chip_goes_well a_Chip_goes_well fd_Chip_goes_well
  bd_Chip_goes_well : Binds K fd_Chip_goes_well ["self", "block", "worn"] []
  k_Chip_goes_well : PySem.W.keepIn K (.ref a_Chip_goes_well) = true
  a_Chip_put : Addr
  fd_Chip_put : FuncData
  F_Chip_put : Fun K "put" "Chip.put" s_Chip_put a_Chip_put fd_Chip_put
  bd_Chip_put : Binds K fd_Chip_put ["self", "page", "stuff"] []
  k_Chip_put : PySem.W.keepIn K (.ref a_Chip_put) = true
  a_Chip_wipe : Addr
  fd_Chip_wipe : FuncData
  F_Chip_wipe : Fun K "wipe" "Chip.wipe" s_Chip_wipe a_Chip_wipe fd_Chip_wipe
  bd_Chip_wipe : Binds K fd_Chip_wipe ["self", "block"] []
  k_Chip_wipe : PySem.W.keepIn K (.ref a_Chip_wipe) = true
  a_Chip_read : Addr
  fd_Chip_read : FuncData
  F_Chip_read : Fun K "read" "Chip.read" s_Chip_read a_Chip_read fd_Chip_read
  bd_Chip_read : Binds K fd_Chip_read ["self", "page"] []
  k_Chip_read : PySem.W.keepIn K (.ref a_Chip_read) = true
  a_Chip_cut_after : Addr
  fd_Chip_cut_after : FuncData
  F_Chip_cut_after : Fun K "cut_after" "Chip.cut_after" s_Chip_cut_after a_Chip_cut_after fd_Chip_cut_after
  bd_Chip_cut_after : Binds K fd_Chip_cut_after ["self", "deeds"] []
  k_Chip_cut_after : PySem.W.keepIn K (.ref a_Chip_cut_after) = true
  a_Chip_power_on : Addr
  fd_Chip_power_on : FuncData
  F_Chip_power_on : Fun K "power_on" "Chip.power_on" s_Chip_power_on a_Chip_power_on fd_Chip_power_on
  bd_Chip_power_on : Binds K fd_Chip_power_on ["self"] []
  k_Chip_power_on : PySem.W.keepIn K (.ref a_Chip_power_on) = true
  a_Chip_is_dark : Addr
  fd_Chip_is_dark : FuncData
  F_Chip_is_dark : Fun K "is_dark" "Chip.is_dark" s_Chip_is_dark a_Chip_is_dark fd_Chip_is_dark
  bd_Chip_is_dark : Binds K fd_Chip_is_dark ["self"] []
  k_Chip_is_dark : PySem.W.keepIn K (.ref a_Chip_is_dark) = true
  a_Chip_cleared : Addr
  fd_Chip_cleared : FuncData
  F_Chip_cleared : Fun K "cleared" "Chip.cleared" s_Chip_cleared a_Chip_cleared fd_Chip_cleared
  bd_Chip_cleared : Binds K fd_Chip_cleared ["self", "block"] []
  k_Chip_cleared : PySem.W.keepIn K (.ref a_Chip_cleared) = true
  a_Chip_failed : Addr
  fd_Chip_failed : FuncData
  F_Chip_failed : Fun K "failed" "Chip.failed" s_Chip_failed a_Chip_failed fd_Chip_failed
  bd_Chip_failed : Binds K fd_Chip_failed ["self", "block"] []
  k_Chip_failed : PySem.W.keepIn K (.ref a_Chip_failed) = true
  a_Chip_deeds : Addr
  fd_Chip_deeds : FuncData
  F_Chip_deeds : Fun K "deeds" "Chip.deeds" s_Chip_deeds a_Chip_deeds fd_Chip_deeds
  bd_Chip_deeds : Binds K fd_Chip_deeds ["self"] []
  k_Chip_deeds : PySem.W.keepIn K (.ref a_Chip_deeds) = true
  a__law_cell_at : Addr
  fd__law_cell_at : FuncData
  F__law_cell_at : Fun K "_law_cell_at" "_law_cell_at" s__law_cell_at a__law_cell_at fd__law_cell_at
  bd__law_cell_at : Binds K fd__law_cell_at ["_law_script", "_law_k"] []
  k__law_cell_at : PySem.W.keepIn K (.ref a__law_cell_at) = true
  g__law_cell_at : mg "_law_cell_at" = some (.ref a__law_cell_at)
  a__law_mix : Addr
  fd__law_mix : FuncData
  F__law_mix : Fun K "_law_mix" "_law_mix" s__law_mix a__law_mix fd__law_mix
  bd__law_mix : Binds K fd__law_mix ["_law_cell", "_law_k"] []
  k__law_mix : PySem.W.keepIn K (.ref a__law_mix) = true
  g__law_mix : mg "_law_mix" = some (.ref a__law_mix)
  a__law_put : Addr
  fd__law_put : FuncData
  F__law_put : Fun K "_law_put" "_law_put" s__law_put a__law_put fd__law_put
  bd__law_put : Binds K fd__law_put ["_law_chip_here", "_law_page", "_law_stuff"] []
  k__law_put : PySem.W.keepIn K (.ref a__law_put) = true
  g__law_put : mg "_law_put" = some (.ref a__law_put)
  a__law_wipe : Addr
  fd__law_wipe : FuncData
  F__law_wipe : Fun K "_law_wipe" "_law_wipe" s__law_wipe a__law_wipe fd__law_wipe
  bd__law_wipe : Binds K fd__law_wipe ["_law_chip_here", "_law_block"] []
  k__law_wipe : PySem.W.keepIn K (.ref a__law_wipe) = true
  g__law_wipe : mg "_law_wipe" = some (.ref a__law_wipe)
  a__law_read : Addr
  fd__law_read : FuncData
  F__law_read : Fun K "_law_read" "_law_read" s__law_read a__law_read fd__law_read
  bd__law_read : Binds K fd__law_read ["_law_chip_here", "_law_page"] []
  k__law_read : PySem.W.keepIn K (.ref a__law_read) = true
  g__law_read : mg "_law_read" = some (.ref a__law_read)
  a__law_deed : Addr
  fd__law_deed : FuncData
  F__law_deed : Fun K "_law_deed" "_law_deed" s__law_deed a__law_deed fd__law_deed
  bd__law_deed : Binds K fd__law_deed ["_law_mine_here", "_law_word", "_law_at", "_law_block"] []
  k__law_deed : PySem.W.keepIn K (.ref a__law_deed) = true
  g__law_deed : mg "_law_deed" = some (.ref a__law_deed)
  a__law_due_put : Addr
  fd__law_due_put : FuncData
  F__law_due_put : Fun K "_law_due_put" "_law_due_put" s__law_due_put a__law_due_put fd__law_due_put
  bd__law_due_put : Binds K fd__law_due_put ["_law_mine_here", "_law_page", "_law_stuff"] []
  k__law_due_put : PySem.W.keepIn K (.ref a__law_due_put) = true
  g__law_due_put : mg "_law_due_put" = some (.ref a__law_due_put)
  a__law_due_wipe : Addr
  fd__law_due_wipe : FuncData
  F__law_due_wipe : Fun K "_law_due_wipe" "_law_due_wipe" s__law_due_wipe a__law_due_wipe fd__law_due_wipe
  bd__law_due_wipe : Binds K fd__law_due_wipe ["_law_mine_here", "_law_block"] []
  k__law_due_wipe : PySem.W.keepIn K (.ref a__law_due_wipe) = true
  g__law_due_wipe : mg "_law_due_wipe" = some (.ref a__law_due_wipe)
  a__law_due_read : Addr
  fd__law_due_read : FuncData
  F__law_due_read : Fun K "_law_due_read" "_law_due_read" s__law_due_read a__law_due_read fd__law_due_read
  bd__law_due_read : Binds K fd__law_due_read ["_law_mine_here", "_law_page"] []
  k__law_due_read : PySem.W.keepIn K (.ref a__law_due_read) = true
  g__law_due_read : mg "_law_due_read" = some (.ref a__law_due_read)
  a__law_step : Addr
  fd__law_step : FuncData
  F__law_step : Fun K "_law_step" "_law_step" s__law_step a__law_step fd__law_step
  bd__law_step : Binds K fd__law_step ["_law_chip_here", "_law_mine_here", "_law_cell", "_law_k"] []
  k__law_step : PySem.W.keepIn K (.ref a__law_step) = true
  g__law_step : mg "_law_step" = some (.ref a__law_step)
  a__law_ills : Addr
  fd__law_ills : FuncData
  F__law_ills : Fun K "_law_ills" "_law_ills" s__law_ills a__law_ills fd__law_ills
  bd__law_ills : Binds K fd__law_ills ["_law_cell", "_law_blocks"] []
  k__law_ills : PySem.W.keepIn K (.ref a__law_ills) = true
  g__law_ills : mg "_law_ills" = some (.ref a__law_ills)
  a__law_end : Addr
  fd__law_end : FuncData
  F__law_end : Fun K "_law_end" "_law_end" s__law_end a__law_end fd__law_end
  bd__law_end : Binds K fd__law_end ["_law_chip_here", "_law_mine_here"] []
  k__law_end : PySem.W.keepIn K (.ref a__law_end) = true
  g__law_end : mg "_law_end" = some (.ref a__law_end)
  a__law_chip : Addr
  fd__law_chip : FuncData
  F__law_chip : Fun K "_law_chip" "_law_chip" s__law_chip a__law_chip fd__law_chip
  bd__law_chip : Binds K fd__law_chip ["_law_blocks", "_law_pages", "_law_ills_here", "_law_most"] []
  k__law_chip : PySem.W.keepIn K (.ref a__law_chip) = true
  g__law_chip : mg "_law_chip" = some (.ref a__law_chip)
  a__law_mine : Addr
  fd__law_mine : FuncData
  F__law_mine : Fun K "_law_mine" "_law_mine" s__law_mine a__law_mine fd__law_mine
  bd__law_mine : Binds K fd__law_mine ["_law_blocks", "_law_pages", "_law_ills_here", "_law_most"] []
  k__law_mine : PySem.W.keepIn K (.ref a__law_mine) = true
  g__law_mine : mg "_law_mine" = some (.ref a__law_mine)
  a_law : Addr
  fd_law : FuncData
  F_law : Fun K "law" "law" s_law a_law fd_law
  bd_law : Binds K fd_law ["_law_script"] []
  k_law : PySem.W.keepIn K (.ref a_law) = true
  C_Chip : Addr
  g_Chip : mg "Chip" = some (.ref C_Chip)
  cl_Chip : Cls K C_Chip
  na_Chip_blocks : NoAttr K C_Chip "blocks"
  na_Chip_pages : NoAttr K C_Chip "pages"
  na_Chip_most : NoAttr K C_Chip "most"
  na_Chip_lasts : NoAttr K C_Chip "lasts"
  na_Chip_stuff : NoAttr K C_Chip "stuff"
  na_Chip_tried : NoAttr K C_Chip "tried"
  na_Chip_clearings : NoAttr K C_Chip "clearings"
  na_Chip_broken : NoAttr K C_Chip "broken"
  na_Chip_left : NoAttr K C_Chip "left"
  na_Chip_log : NoAttr K C_Chip "log"
  mk_Chip : Mk K C_Chip a_Chip_init
  m_Chip_need_page : Meth K C_Chip "need_page" a_Chip_need_page
  m_Chip_need_block : Meth K C_Chip "need_block" a_Chip_need_block
  m_Chip_need_power : Meth K C_Chip "need_power" a_Chip_need_power
  m_Chip_need_good : Meth K C_Chip "need_good" a_Chip_need_good
  m_Chip_goes_well : Meth K C_Chip "goes_well" a_Chip_goes_well
  m_Chip_put : Meth K C_Chip "put" a_Chip_put
  m_Chip_wipe : Meth K C_Chip "wipe" a_Chip_wipe
  m_Chip_read : Meth K C_Chip "read" a_Chip_read
  m_Chip_cut_after : Meth K C_Chip "cut_after" a_Chip_cut_after
  m_Chip_power_on : Meth K C_Chip "power_on" a_Chip_power_on
  m_Chip_is_dark : Meth K C_Chip "is_dark" a_Chip_is_dark
  m_Chip_cleared : Meth K C_Chip "cleared" a_Chip_cleared
  m_Chip_failed : Meth K C_Chip "failed" a_Chip_failed
  m_Chip_deeds : Meth K C_Chip "deeds" a_Chip_deeds
  C_WornError : Addr
  g_WornError : mg "WornError" = some (.ref C_WornError)
  xc_WornError : XC K C_WornError
  C_NoChip : Addr
  g_NoChip : mg "NoChip" = some (.ref C_NoChip)
  xc_NoChip : XC K C_NoChip
  C_NoPlace : Addr
  g_NoPlace : mg "NoPlace" = some (.ref C_NoPlace)
  xc_NoPlace : XC K C_NoPlace
  C_PowerGone : Addr
  g_PowerGone : mg "PowerGone" = some (.ref C_PowerGone)
  xc_PowerGone : XC K C_PowerGone
  C_BlockFailed : Addr
  g_BlockFailed : mg "BlockFailed" = some (.ref C_BlockFailed)
  xi_BlockFailed : XI K C_BlockFailed a_BlockFailed_init
  nx_BlockFailed_block : PySem.W.findIn K (.ref C_BlockFailed) "block" = some none
  C_NotClear : Addr
  g_NotClear : mg "NotClear" = some (.ref C_NotClear)
  xi_NotClear : XI K C_NotClear a_NotClear_init
  nx_NotClear_page : PySem.W.findIn K (.ref C_NotClear) "page" = some none
  C_NoValue : Addr
  g_NoValue : mg "NoValue" = some (.ref C_NoValue)
  xc_NoValue : XC K C_NoValue
  wi_WornError : WInit K C_WornError
  em_NoChip_NoPlace : PySem.W.exmOne K (.ref C_NoChip) (.ref C_NoPlace) = some false
  em_NoChip_PowerGone : PySem.W.exmOne K (.ref C_NoChip) (.ref C_PowerGone) = some false
  em_NoChip_BlockFailed : PySem.W.exmOne K (.ref C_NoChip) (.ref C_BlockFailed) = some false
  em_NoChip_NotClear : PySem.W.exmOne K (.ref C_NoChip) (.ref C_NotClear) = some false
  em_NoPlace_NoPlace : PySem.W.exmOne K (.ref C_NoPlace) (.ref C_NoPlace) = some true
  em_NoPlace_PowerGone : PySem.W.exmOne K (.ref C_NoPlace) (.ref C_PowerGone) = some false
  em_NoPlace_BlockFailed : PySem.W.exmOne K (.ref C_NoPlace) (.ref C_BlockFailed) = some false
  em_NoPlace_NotClear : PySem.W.exmOne K (.ref C_NoPlace) (.ref C_NotClear) = some false
  em_PowerGone_NoPlace : PySem.W.exmOne K (.ref C_PowerGone) (.ref C_NoPlace) = some false
  em_PowerGone_PowerGone : PySem.W.exmOne K (.ref C_PowerGone) (.ref C_PowerGone) = some true
  em_PowerGone_BlockFailed : PySem.W.exmOne K (.ref C_PowerGone) (.ref C_BlockFailed) = some false
  em_PowerGone_NotClear : PySem.W.exmOne K (.ref C_PowerGone) (.ref C_NotClear) = some false
  em_BlockFailed_NoPlace : PySem.W.exmOne K (.ref C_BlockFailed) (.ref C_NoPlace) = some false
  em_BlockFailed_PowerGone : PySem.W.exmOne K (.ref C_BlockFailed) (.ref C_PowerGone) = some false
  em_BlockFailed_BlockFailed : PySem.W.exmOne K (.ref C_BlockFailed) (.ref C_BlockFailed) = some true
  em_BlockFailed_NotClear : PySem.W.exmOne K (.ref C_BlockFailed) (.ref C_NotClear) = some false
  em_NotClear_NoPlace : PySem.W.exmOne K (.ref C_NotClear) (.ref C_NoPlace) = some false
  em_NotClear_PowerGone : PySem.W.exmOne K (.ref C_NotClear) (.ref C_PowerGone) = some false
  em_NotClear_BlockFailed : PySem.W.exmOne K (.ref C_NotClear) (.ref C_BlockFailed) = some false
  em_NotClear_NotClear : PySem.W.exmOne K (.ref C_NotClear) (.ref C_NotClear) = some true
  em_NoValue_NoPlace : PySem.W.exmOne K (.ref C_NoValue) (.ref C_NoPlace) = some false
  em_NoValue_PowerGone : PySem.W.exmOne K (.ref C_NoValue) (.ref C_PowerGone) = some false
  em_NoValue_BlockFailed : PySem.W.exmOne K (.ref C_NoValue) (.ref C_BlockFailed) = some false
  em_NoValue_NotClear : PySem.W.exmOne K (.ref C_NoValue) (.ref C_NotClear) = some false
  b_len : mg "len" = none
  b_isinstance : mg "isinstance" = none
  b_min : mg "min" = none
  b_int : mg "int" = none
  b_str : mg "str" = none
  b_list : mg "list" = none
  b_tuple : mg "tuple" = none
  b_bool : mg "bool" = none
  b_range : mg "range" = none
  b_ValueError : mg "ValueError" = none
  u_MANY : Value
  g_MANY : mg "MANY" = some u_MANY
  r_MANY : RelV (V.int (16)) u_MANY
  u_MOST : Value
  g_MOST : mg "MOST" = some u_MOST
  r_MOST : RelV (V.int (1000000)) u_MOST
local macro_rules | `(tactic| walk_at "cls") => `(tactic| first | assumption | exact (show Txt _ _ by assumption).cl_Chip)
local macro_rules | `(tactic| walk_at "na") => `(tactic| first | assumption | exact (show Txt _ _ by assumption).na_Chip_blocks | exact (show Txt _ _ by assumption).na_Chip_pages | exact (show Txt _ _ by assumption).na_Chip_most | exact (show Txt _ _ by assumption).na_Chip_lasts | exact (show Txt _ _ by assumption).na_Chip_stuff | exact (show Txt _ _ by assumption).na_Chip_tried | exact (show Txt _ _ by assumption).na_Chip_clearings | exact (show Txt _ _ by assumption).na_Chip_broken | exact (show Txt _ _ by assumption).na_Chip_left | exact (show Txt _ _ by assumption).na_Chip_log)

section
variable {P : Program} {w : World} {K : PySem.W.Frag} {mg : Str → Option Value} {base : Heap}
abbrev FO (P : Program) (w : World) (K : PySem.W.Frag) (mg : Str → Option Value) (base : Heap) := FnOk P w K mg base (L2.CX P w)
/-! ### the law's reader -/
def cl (ns : List Int) (k : Int) : Int := ns.getD k.toNat 0
def spCell (K : PySem.W.Frag) : Sp := fun vs H Q _ => ∃ (a : Addr) (ns : List Int) (k : Int), vs = [.ref a, .int k] ∧ SqL K H a (ns.map V.int) ∧ 0 ≤ k ∧ Q (.int (cl ns k)) H
theorem ok_cell_at (T : Txt K mg) : FO P w K mg base 1 T.a__law_cell_at T.fd__law_cell_at ["_law_script", "_law_k"] (spCell K) := by
  have sc := sc__law_cell_at
  refine T.F__law_cell_at.okX sc (fun vs H Q E h => ?_) (fun cdv A outer s H vs Q E hr h => ?_)
  · obtain ⟨a, ns, k, rfl, _⟩ := h
    rfl
  · obtain ⟨a, ns, k, rfl, hS, h0, q⟩ := h
    refine ⟨_, (pss_cons (ps_if (pt_cmpR op_uLt (pv 1) (pe_callB (cr_ulen) (by rfl) T.b_len bt_len (pa_cons (pv 0) pa_nil)) (nomark _)) (pss_one (ps_ret (pe_ix ix_seq (pv 0) (pv 1) (fun _ _ => rfl)))) pss_nil)
      (pss_one (ps_ret pe_int))), ?_⟩
    walk_at "begin"
    walk_at "if"
    refine x_iteD (fun h => ?_) (fun h => ?_)
    · walk_at "go"
      exact q
    · walk_at "go"
      have e : cl ns k = 0 := by
        unfold cl
        rw [List.getD_eq_getElem?_getD, List.getElem?_eq_none (by omega)]
        rfl
      rw [e] at q
      exact q

theorem x_cell {H : Hp} {Q : VK} {E : XK} {a : Addr} {ns : List Int} {k : Int} (h : SqL K H a (ns.map V.int)) (q : Q (.int (cl ns k)) H) (h0 : 0 ≤ k) : spCell K [.ref a, .int k] H Q E := ⟨a, ns, k, rfl, h, h0, q⟩
local macro_rules | `(tactic| walk_at "u") => `(tactic| ((with_reducible refine' x_cell ?hq ?_ ?h0); (case hq => walk_at "sq"); (try (case h0 => walk_at "side"))))

/-- a value that is no whole number, of a kind that is met here -/
def NotI (K : PySem.W.Frag) (H : Hp) (v : V) : Prop := v = .non ∨ (∃ b, v = .bl b) ∨ (∃ s, v = .str s) ∨ ∃ p, v = .ref p ∧ (TyX K H v (.type "list") ∨ TyX K H v (.type "tuple"))

/-! ### whole numbers -/
def spWhole (K : PySem.W.Frag) : Sp := fun vs H Q _ => ∃ v, vs = [v] ∧ ((∃ n, v = .int n ∧ Q (.bl true) H) ∨ (NotI K H v ∧ Q (.bl false) H))
theorem x_whole {H : Hp} {Q : VK} {E : XK} {n : Int} (q : Q (.bl true) H) : spWhole K [.int n] H Q E := ⟨_, rfl, .inl ⟨n, rfl, q⟩⟩
theorem x_wholeN {H : Hp} {Q : VK} {E : XK} {v : V} (h : NotI K H v) (q : Q (.bl false) H) : spWhole K [v] H Q E := ⟨_, rfl, .inr ⟨h, q⟩⟩
local macro_rules | `(tactic| walk_at "u") => `(tactic| first | (with_reducible refine x_whole ?_) | (with_reducible refine x_wholeN (by assumption) ?_))
theorem ok_is_whole (T : Txt K mg) : FO P w K mg base 1 T.a_is_whole T.fd_is_whole ["thing"] (spWhole K) := by
  have sc := sc_is_whole
  refine T.F_is_whole.okX sc (fun vs H Q E h => ?_) (fun cdv A outer s H vs Q E hr h => ?_)
  · obtain ⟨v, rfl, _⟩ := h
    rfl
  · obtain ⟨v, rfl, h⟩ := h
    refine ⟨_, (pss_one (ps_ret (pe_andT (pe_callB (cr_uisinstance) (by rfl) T.b_isinstance bt_isinstance (pa_cons (pv 0) (pa_cons (pe_bltn (v := .ty "int") (by rfl) T.b_int bt_int rfl) pa_nil))) (pe_one (pe_notT (pe_callB (cr_uisinstance) (by rfl) T.b_isinstance bt_isinstance (pa_cons (pv 0) (pa_cons (pe_bltn (v := .ty "bool") (by rfl) T.b_bool bt_bool rfl) pa_nil)))))))), ?_⟩
    walk_at "begin"
    walk_at "go"
    rcases h with ⟨n, rfl, q⟩ | ⟨h, q⟩
    · walk_at "go"
      exact q
    · rcases h with rfl | ⟨b, rfl⟩ | ⟨z, rfl⟩ | ⟨p, rfl, h⟩
      · walk_at "go"
        exact q
      · walk_at "go"
        exact q
      · walk_at "go"
        exact q
      · rcases h with h | h
        · refine x_isiR h (b := false) (by decide +kernel) ?_
          walk_at "go"
          exact q
        · refine x_isiR h (b := false) (by decide +kernel) ?_
          walk_at "go"
          exact q
def spWithin (K : PySem.W.Frag) : Sp := fun vs H Q _ => ∃ v lo hi, vs = [v, .int lo, .int hi] ∧ ((∃ n, v = .int n ∧ Q (.bl (decide (lo ≤ n ∧ n ≤ hi))) H) ∨ (NotI K H v ∧ Q (.bl false) H))
theorem x_within {H : Hp} {Q : VK} {E : XK} {n lo hi : Int} (q : Q (.bl (decide (lo ≤ n ∧ n ≤ hi))) H) : spWithin K [.int n, .int lo, .int hi] H Q E := ⟨_, _, _, rfl, .inl ⟨n, rfl, q⟩⟩
theorem x_withinN {H : Hp} {Q : VK} {E : XK} {v : V} {lo hi : Int} (h : NotI K H v) (q : Q (.bl false) H) : spWithin K [v, .int lo, .int hi] H Q E := ⟨_, _, _, rfl, .inr ⟨h, q⟩⟩
local macro_rules | `(tactic| walk_at "u") => `(tactic| first | (with_reducible refine x_within ?_) | (with_reducible refine x_withinN (by assumption) ?_))
theorem ok_is_within (T : Txt K mg) : FO P w K mg base 2 T.a_is_within T.fd_is_within ["thing", "low", "high"] (spWithin K) := by
  have sc := sc_is_within
  refine T.F_is_within.okX sc (fun vs H Q E h => ?_) (fun cdv A outer s H vs Q E hr h => ?_)
  · obtain ⟨v, lo, hi, rfl, _⟩ := h
    rfl
  · obtain ⟨v, lo, hi, rfl, h⟩ := h
    refine ⟨_, (pss_one (ps_ret (pe_andT (pe_callS (ok_is_whole T) (hr.mono (by decide)) (by rfl) T.g_is_whole T.k_is_whole T.bd_is_whole (passAt (takes_of rfl rfl rfl rfl)) (pa_cons (pv 0) pa_nil)) (pe_one (pe_chain op_le op_le (pv 1) (pv 0) (pv 2)))))), ?_⟩
    walk_at "begin"
    walk_at "go"
    rcases h with ⟨n, rfl, q⟩ | ⟨h, q⟩
    · walk_at "go"
      refine x_iteD (fun h => ?_) (fun h => ?_)
      · walk_at "go"
        have e : decide (n ≤ hi) = decide (lo ≤ n ∧ n ≤ hi) := by simp [h]
        rw [e]
        exact q
      · walk_at "go"
        have e : false = decide (lo ≤ n ∧ n ≤ hi) := by simp [h]
        rw [← e] at q
        exact q
    · walk_at "go"
      exact q


/-! ### values that may be numbers -/
def NotS (v : V) : Prop := v = .non ∨ (∃ b, v = .bl b) ∨ ∃ s, v = .str s
theorem NotS.to {H : Hp} {v : V} (h : NotS v) : NotI K H v := by
  rcases h with h | h | h
  · exact .inl h
  · exact .inr (.inl h)
  · exact .inr (.inr (.inl h))
inductive Num : V → Option Int → Prop
  | int (n : Int) : Num (.int n) (some n)
  | no (v : V) : NotS v → Num v none
def inB (o : Option Int) (lo hi : Int) : Bool := match o with
  | some n => decide (lo ≤ n ∧ n ≤ hi)
  | none => false
theorem x_wNum {H : Hp} {Q : VK} {E : XK} {v : V} {o : Option Int} {lo hi : Int} (h : Num v o) (q : Q (.bl (inB o lo hi)) H) : spWithin K [v, .int lo, .int hi] H Q E := by
  cases h with
  | int n => exact ⟨_, _, _, rfl, .inl ⟨n, rfl, q⟩⟩
  | no v h => exact ⟨_, _, _, rfl, .inr ⟨h.to, q⟩⟩
theorem Num.of_inB {v : V} {o : Option Int} {lo hi : Int} (h : Num v o) (e : inB o lo hi = true) : ∃ n, v = .int n ∧ o = some n ∧ lo ≤ n ∧ n ≤ hi := by
  cases h with
  | int n => exact ⟨n, rfl, rfl, of_decide_eq_true e⟩
  | no v h => cases e

/-! ### the chip -/
structure Cs where
  b : Int
  p : Int
  m : Int
  lasts : List V
  stuff : List V
  tried : List Int
  clr : List Int
  broken : List Bool
  left : Option Int
  log : List (Str × Int × Bool)
structure CF where
  dx : Addr
  la : Addr
  st : Addr
  tr : Addr
  cl : Addr
  br : Addr
  lg : Addr
def lv : Option Int → V
  | none => .non
  | some n => .int n
def chipF (F : CF) (c : Cs) : List (Str × V) := [("blocks", .int c.b), ("pages", .int c.p), ("most", .int c.m), ("lasts", .ref F.la), ("stuff", .ref F.st), ("tried", .ref F.tr), ("clearings", .ref F.cl), ("broken", .ref F.br), ("left", lv c.left), ("log", .ref F.lg)]
def LogAt (H : Hp) (v : V) (e : Str × Int × Bool) : Prop := ∃ a, v = .ref a ∧ H a = some (.tup [.str e.1, .int e.2.1, .bl e.2.2])
def LogAll (H : Hp) (vs : List V) (es : List (Str × Int × Bool)) : Prop := vs.length = es.length ∧ ∀ (i : Nat) v e, vs[i]? = some v → es[i]? = some e → LogAt H v e
structure Sizes (c : Cs) : Prop where
  b : 2 ≤ c.b ∧ c.b ≤ 16
  p : 1 ≤ c.p ∧ c.p ≤ 16
  m : 0 ≤ c.m ∧ c.m ≤ 1000000
  lasts : (c.lasts.length : Int) = c.b
  stuff : (c.stuff.length : Int) = c.b * c.p
  tried : (c.tried.length : Int) = c.b
  clr : (c.clr.length : Int) = c.b
  broken : (c.broken.length : Int) = c.b
  lsc : ∀ x ∈ c.lasts, x = .non ∨ ∃ n : Int, x = .int n
def CF.all (F : CF) (r : Addr) : List Addr := [r, F.la, F.st, F.tr, F.cl, F.br, F.lg]
structure ChipAt (C : Addr) (H : Hp) (r : Addr) (F : CF) (c : Cs) : Prop where
  obj : H r = some (.ins C F.dx (chipF F c))
  la : H F.la = some (.lst c.lasts)
  st : H F.st = some (.lst c.stuff)
  tr : H F.tr = some (.lst (c.tried.map V.int))
  cl : H F.cl = some (.lst (c.clr.map V.int))
  br : H F.br = some (.lst (c.broken.map V.bl))
  lg : ∃ vs, H F.lg = some (.lst vs) ∧ LogAll H vs c.log
  nd : (CF.all F r).Nodup
  sz : Sizes c
theorem LogAll.mono {H H' : Hp} {vs : List V} {es : List (Str × Int × Bool)} (s : TupS H H') (h : LogAll H vs es) : LogAll H' vs es := ⟨h.1, fun i v e h1 h2 => by
  obtain ⟨a, q, h⟩ := h.2 i v e h1 h2
  exact ⟨a, q, s _ _ h⟩⟩
theorem ChipAt.mono {C : Addr} {H H' : Hp} {r : Addr} {F : CF} {c : Cs} (s : Same H H') (h : ChipAt C H r F c) : ChipAt C H' r F c := by
  obtain ⟨vs, e, l⟩ := h.lg
  exact ⟨s _ _ h.obj, s _ _ h.la, s _ _ h.st, s _ _ h.tr, s _ _ h.cl, s _ _ h.br, ⟨vs, s _ _ e, l.mono (TupS.of s)⟩, h.nd, h.sz⟩
/-- the addresses of a chip are unlike -/
theorem ChipAt.ne {C : Addr} {H : Hp} {r : Addr} {F : CF} {c : Cs} (h : ChipAt C H r F c) : (r ≠ F.la ∧ r ≠ F.st ∧ r ≠ F.tr ∧ r ≠ F.cl ∧ r ≠ F.br ∧ r ≠ F.lg) ∧ (F.la ≠ F.st ∧ F.la ≠ F.tr ∧ F.la ≠ F.cl ∧ F.la ≠ F.br ∧ F.la ≠ F.lg) ∧ (F.st ≠ F.tr ∧ F.st ≠ F.cl ∧ F.st ≠ F.br ∧ F.st ≠ F.lg) ∧ (F.tr ≠ F.cl ∧ F.tr ≠ F.br ∧ F.tr ≠ F.lg) ∧ (F.cl ≠ F.br ∧ F.cl ≠ F.lg) ∧ F.br ≠ F.lg := by
  have d := h.nd
  unfold CF.all at d
  simp only [List.nodup_cons, List.mem_cons, List.not_mem_nil, or_false, not_or, not_false_eq_true, List.nodup_nil, and_true] at d
  exact ⟨d.1, d.2.1, d.2.2.1, d.2.2.2.1, d.2.2.2.2.1, d.2.2.2.2.2⟩
/-- tuples stay where a chip changes -/
theorem ChipAt.tups {C : Addr} {H H' : Hp} {r : Addr} {F : CF} {c : Cs} (h : ChipAt C H r F c) (s : Off (F.all r) H H') : TupS H H' := fun a xs e => by
  refine s a _ (fun m => ?_) e
  obtain ⟨vs, e7, _⟩ := h.lg
  unfold CF.all at m
  simp only [List.mem_cons, List.not_mem_nil, or_false] at m
  rcases m with rfl | rfl | rfl | rfl | rfl | rfl | rfl
  · rw [h.obj] at e; cases e
  · rw [h.la] at e; cases e
  · rw [h.st] at e; cases e
  · rw [h.tr] at e; cases e
  · rw [h.cl] at e; cases e
  · rw [h.br] at e; cases e
  · rw [e7] at e; cases e
theorem ChipAt.off {C : Addr} {H H' : Hp} {r : Addr} {F : CF} {c : Cs} {S : List Addr} (h : ChipAt C H r F c) (s : Off S H H') (n : ∀ a, a ∈ F.all r → a ∉ S) (ht : TupS H H') : ChipAt C H' r F c := by
  obtain ⟨vs, e, l⟩ := h.lg
  unfold CF.all at n
  exact ⟨s.at h.obj (n _ (by simp)), s.at h.la (n _ (by simp)), s.at h.st (n _ (by simp)), s.at h.tr (n _ (by simp)), s.at h.cl (n _ (by simp)), s.at h.br (n _ (by simp)), ⟨vs, s.at e (n _ (by simp)), l.mono ht⟩, h.nd, h.sz⟩
/-- a list that is another one's changes: tuples stay -/
theorem _root_.Kit.Off.tupsL {a : Addr} {H H' : Hp} {xs : List V} (s : Off [a] H H') (h : H a = some (.lst xs)) : TupS H H' := fun b ys e => s b _ (fun m => by rw [List.mem_singleton.mp m, h] at e; cases e) e
def Cs.dark (c : Cs) : Bool := decide (c.left = some 0)
/-- how an asking ends -/
inductive Res
  | ok
  | place
  | dark
  | failed (b : Int)
  | clear (n : Int)
  | value
def spDark (C : Addr) : Sp := fun vs H Q _ => ∃ r F c, vs = [.ref r] ∧ ChipAt C H r F c ∧ Q (.bl c.dark) H
theorem lv_eq0 {o : Option Int} : decide (lv o = .int 0) = decide (o = some 0) := by
  cases o with
  | none => rfl
  | some n => rw [decide_eq_decide]; simp [lv]
theorem lv_scal {o : Option Int} {n : Int} : scal (lv o) (.int n) = true := by cases o <;> rfl
theorem ok_Chip_is_dark (T : Txt K mg) : FO P w K mg base 1 T.a_Chip_is_dark T.fd_Chip_is_dark ["self"] (spDark T.C_Chip) := by
  have sc := sc_Chip_is_dark
  refine T.F_Chip_is_dark.okX sc (fun vs H Q E h => ?_) (fun cdv A outer s H vs Q E hr h => ?_)
  · obtain ⟨_, _, _, rfl, _⟩ := h
    rfl
  · obtain ⟨r, F, c, rfl, hC, q⟩ := h
    refine ⟨_, (pss_one (ps_ret (pe_cmpR (op_uEq hr.units) (pe_fld (pv 0) rfl) pe_int (nomark _)))), ?_⟩
    have o := hC.obj
    unfold chipF at o
    walk_at "begin"
    walk_at "go"
    refine x_eqSc lv_scal ?_
    rw [lv_eq0]
    exact q
theorem MO_dark (T : Txt K mg) : MO P w K mg base (L2.CX P w) 1 T.C_Chip "is_dark" (spDark T.C_Chip) := ⟨⟨_, _, _, T.cl_Chip, T.m_Chip_is_dark, ok_Chip_is_dark T, T.bd_Chip_is_dark⟩⟩
theorem x_mDark {T : Txt K mg} {H : Hp} {Q : VK} {E : XK} {σ : L2.St} {r : Addr} {F : CF} {c : Cs} (hC : ChipAt T.C_Chip H r F c) (q : Q (.bl c.dark) H) : mtK P w K mg base (L2.CX P w) 1 "is_dark" E σ tNil Q (.ref r) H :=
  x_mtK hC.obj (MO_dark T) rfl ⟨r, F, c, rfl, hC, q⟩
def spPower (T : Txt K mg) : Sp := fun vs H Q E => ∃ r F c, vs = [.ref r] ∧ ChipAt T.C_Chip H r F c ∧ (c.dark = false → Q .non H) ∧ (c.dark = true → E (.ref T.C_PowerGone) none H)
theorem ok_Chip_need_power (T : Txt K mg) : FO P w K mg base 2 T.a_Chip_need_power T.fd_Chip_need_power ["self"] (spPower T) := by
  have sc := sc_Chip_need_power
  refine T.F_Chip_need_power.okX sc (fun vs H Q E h => ?_) (fun cdv A outer s H vs Q E hr h => ?_)
  · obtain ⟨_, _, _, rfl, _⟩ := h
    rfl
  · obtain ⟨r, F, c, rfl, hC, q1, q2⟩ := h
    refine ⟨_, (pss_one (ps_if (pt_truth (pe_methD0 (k := 1) (pv 0) (hr.mono (by decide)) (passAt (takes_of rfl rfl rfl rfl))) (by intro _; rfl)) (pss_one (ps_raiseK rfl (takes_of rfl rfl rfl rfl) (pmk_ownK T.xc_PowerGone T.g_PowerGone rfl))) pss_nil)), ?_⟩
    walk_at "begin"
    walk_at "go"
    refine x_mDark hC ?_
    walk_at "go"
    refine x_iteB (fun h => ?_) (fun h => ?_)
    · walk_at "go"
      exact q2 h
    · walk_at "go"
      exact q1 h
theorem x_mPower {T : Txt K mg} {H : Hp} {Q : VK} {E : XK} {σ : L2.St} {r : Addr} {F : CF} {c : Cs} (hC : ChipAt T.C_Chip H r F c) (q1 : c.dark = false → Q .non H) (q2 : c.dark = true → E (.ref T.C_PowerGone) none H) : mtK P w K mg base (L2.CX P w) 2 "need_power" E σ tNil Q (.ref r) H :=
  x_mtK hC.obj ⟨⟨_, _, _, T.cl_Chip, T.m_Chip_need_power, ok_Chip_need_power T, T.bd_Chip_need_power⟩⟩ rfl ⟨r, F, c, rfl, hC, q1, q2⟩
def spPage (T : Txt K mg) : Sp := fun vs H Q E => ∃ r F c v o, vs = [.ref r, v] ∧ ChipAt T.C_Chip H r F c ∧ Num v o ∧ (inB o 0 (c.b * c.p - 1) = true → Q .non H) ∧ (inB o 0 (c.b * c.p - 1) = false → E (.ref T.C_NoPlace) none H)
theorem ok_Chip_need_page (T : Txt K mg) : FO P w K mg base 3 T.a_Chip_need_page T.fd_Chip_need_page ["self", "page"] (spPage T) := by
  have sc := sc_Chip_need_page
  refine T.F_Chip_need_page.okX sc (fun vs H Q E h => ?_) (fun cdv A outer s H vs Q E hr h => ?_)
  · obtain ⟨_, _, _, _, _, rfl, _⟩ := h
    rfl
  · obtain ⟨r, F, c, v, o, rfl, hC, hn, q1, q2⟩ := h
    refine ⟨_, (pss_one (ps_if (pt_not (pt_truth (pe_callS (ok_is_within T) (hr.mono (by decide)) (by rfl) T.g_is_within T.k_is_within T.bd_is_within (passAt (takes_of rfl rfl rfl rfl)) (pa_cons (pv 1) (pa_cons pe_int (pa_cons (pe_op op_sub (pe_callB (cr_ulen) (by rfl) T.b_len bt_len (pa_cons (pe_fld (pv 0) rfl) pa_nil)) pe_int) pa_nil)))) (by intro _; rfl))) (pss_one (ps_raiseK rfl (takes_of rfl rfl rfl rfl) (pmk_ownK T.xc_NoPlace T.g_NoPlace rfl))) pss_nil)), ?_⟩
    have ho := hC.obj
    have hst := hC.st
    have hsz := hC.sz.stuff
    unfold chipF at ho
    walk_at "begin"
    walk_at "go"
    rw [hsz]
    refine x_wNum hn ?_
    walk_at "go"
    refine x_iteB (fun h => ?_) (fun h => ?_)
    · walk_at "go"
      exact q1 h
    · walk_at "go"
      exact q2 h

theorem x_mPage {T : Txt K mg} {H : Hp} {Q : VK} {E : XK} {σ : L2.St} {r : Addr} {F : CF} {c : Cs} {t : TA} (hC : ChipAt T.C_Chip H r F c) (h : t σ H fun vs H2 => spPage T (.ref r :: vs) H2 Q E) : mtK P w K mg base (L2.CX P w) 3 "need_page" E σ t Q (.ref r) H :=
  x_mtK hC.obj ⟨⟨_, _, _, T.cl_Chip, T.m_Chip_need_page, ok_Chip_need_page T, T.bd_Chip_need_page⟩⟩ rfl h
theorem x_page {T : Txt K mg} {H : Hp} {Q : VK} {E : XK} {r : Addr} {F : CF} {c : Cs} {v : V} {o : Option Int} (hC : ChipAt T.C_Chip H r F c) (hn : Num v o) (q1 : inB o 0 (c.b * c.p - 1) = true → Q .non H) (q2 : inB o 0 (c.b * c.p - 1) = false → E (.ref T.C_NoPlace) none H) : spPage T [.ref r, v] H Q E := ⟨r, F, c, v, o, rfl, hC, hn, q1, q2⟩
def spBlock (T : Txt K mg) : Sp := fun vs H Q E => ∃ r F c v o, vs = [.ref r, v] ∧ ChipAt T.C_Chip H r F c ∧ Num v o ∧ (inB o 0 (c.b - 1) = true → Q .non H) ∧ (inB o 0 (c.b - 1) = false → E (.ref T.C_NoPlace) none H)
theorem ok_Chip_need_block (T : Txt K mg) : FO P w K mg base 3 T.a_Chip_need_block T.fd_Chip_need_block ["self", "block"] (spBlock T) := by
  have sc := sc_Chip_need_block
  refine T.F_Chip_need_block.okX sc (fun vs H Q E h => ?_) (fun cdv A outer s H vs Q E hr h => ?_)
  · obtain ⟨_, _, _, _, _, rfl, _⟩ := h
    rfl
  · obtain ⟨r, F, c, v, o, rfl, hC, hn, q1, q2⟩ := h
    refine ⟨_, (pss_one (ps_if (pt_not (pt_truth (pe_callS (ok_is_within T) (hr.mono (by decide)) (by rfl) T.g_is_within T.k_is_within T.bd_is_within (passAt (takes_of rfl rfl rfl rfl)) (pa_cons (pv 1) (pa_cons pe_int (pa_cons (pe_op op_sub (pe_fld (pv 0) rfl) pe_int) pa_nil)))) (by intro _; rfl))) (pss_one (ps_raiseK rfl (takes_of rfl rfl rfl rfl) (pmk_ownK T.xc_NoPlace T.g_NoPlace rfl))) pss_nil)), ?_⟩
    have ho := hC.obj
    unfold chipF at ho
    walk_at "begin"
    walk_at "go"
    refine x_wNum hn ?_
    walk_at "go"
    refine x_iteB (fun h => ?_) (fun h => ?_)
    · walk_at "go"
      exact q1 h
    · walk_at "go"
      exact q2 h
theorem x_mBlock {T : Txt K mg} {H : Hp} {Q : VK} {E : XK} {σ : L2.St} {r : Addr} {F : CF} {c : Cs} {t : TA} (hC : ChipAt T.C_Chip H r F c) (h : t σ H fun vs H2 => spBlock T (.ref r :: vs) H2 Q E) : mtK P w K mg base (L2.CX P w) 3 "need_block" E σ t Q (.ref r) H :=
  x_mtK hC.obj ⟨⟨_, _, _, T.cl_Chip, T.m_Chip_need_block, ok_Chip_need_block T, T.bd_Chip_need_block⟩⟩ rfl h
theorem x_block {T : Txt K mg} {H : Hp} {Q : VK} {E : XK} {r : Addr} {F : CF} {c : Cs} {v : V} {o : Option Int} (hC : ChipAt T.C_Chip H r F c) (hn : Num v o) (q1 : inB o 0 (c.b - 1) = true → Q .non H) (q2 : inB o 0 (c.b - 1) = false → E (.ref T.C_NoPlace) none H) : spBlock T [.ref r, v] H Q E := ⟨r, F, c, v, o, rfl, hC, hn, q1, q2⟩
/-! the refusals with a field -/
def SmallI (v : V) : Prop := ∃ n : Int, v = .int n ∧ 0 ≤ n ∧ n < 300
theorem ok_BlockFailed_init (T : Txt K mg) : FO P w K mg base 1 T.a_BlockFailed_init T.fd_BlockFailed_init ["self", "block"] (spXInit K T.C_BlockFailed "block" SmallI) := by
  have sc := sc_BlockFailed_init
  refine T.F_BlockFailed_init.okX sc (fun vs H Q E h => ?_) (fun cdv A outer s H vs Q E hr h => ?_)
  · obtain ⟨_, _, rfl, _⟩ := h
    rfl
  · obtain ⟨a, v, rfl, ⟨n, rfl, h0, h1⟩, o, hn, ha, q⟩ := h
    refine ⟨_, (pss_cons (ps_expr (pe_weinit T.wi_WornError rfl T.g_WornError (pa_cons (pv 0) (pa_cons (pe_op op_uAdd (pe_op op_uAdd pe_str (pe_callTy ct_str (by rfl) T.b_str bt_str (pa_cons (pv 1) pa_nil))) pe_str) pa_nil))))
      (pss_one (ps_ost (pv 0) (pv 1)))), ?_⟩
    have hlog := small_log h0 (by omega : n < 1000000)
    have hlen := str_len h0 h1
    have z1 : (Str.ofString "block ").length + (Str.ofString (toString n)).length ≤ sizeLine := line_len (by
      have e1 : (Str.ofString "block ").length = 6 := by decide
      omega)
    have z2 : (Str.ofString "block " ++ Str.ofString (toString n)).length + (Str.ofString " failed").length ≤ sizeLine := line_len (by
      have e1 : (Str.ofString "block ").length = 6 := by decide
      have e2 : (Str.ofString " failed").length = 7 := by decide
      have e3 : (Str.ofString "block " ++ Str.ofString (toString n)).length = (Str.ofString "block ").length + (Str.ofString (toString n)).length := PySem.Str.length_append _ _
      omega)
    walk_at "begin"
    walk_at "go"
    refine x_veK o ha ?_ (Nat.le_of_ble_eq_true rfl)
    dsimp only
    refine x_ost ?_
    walk_at "go"
    exact ⟨a, _, rfl, o, hn, .inl ⟨ha, q⟩⟩
theorem ok_NotClear_init (T : Txt K mg) : FO P w K mg base 1 T.a_NotClear_init T.fd_NotClear_init ["self", "page"] (spXInit K T.C_NotClear "page" SmallI) := by
  have sc := sc_NotClear_init
  refine T.F_NotClear_init.okX sc (fun vs H Q E h => ?_) (fun cdv A outer s H vs Q E hr h => ?_)
  · obtain ⟨_, _, rfl, _⟩ := h
    rfl
  · obtain ⟨a, v, rfl, ⟨n, rfl, h0, h1⟩, o, hn, ha, q⟩ := h
    refine ⟨_, (pss_cons (ps_expr (pe_weinit T.wi_WornError rfl T.g_WornError (pa_cons (pv 0) (pa_cons (pe_op op_uAdd (pe_op op_uAdd pe_str (pe_callTy ct_str (by rfl) T.b_str bt_str (pa_cons (pv 1) pa_nil))) pe_str) pa_nil))))
      (pss_one (ps_ost (pv 0) (pv 1)))), ?_⟩
    have hlog := small_log h0 (by omega : n < 1000000)
    have hlen := str_len h0 h1
    have z1 : (Str.ofString "page ").length + (Str.ofString (toString n)).length ≤ sizeLine := line_len (by
      have e1 : (Str.ofString "page ").length = 5 := by decide
      omega)
    have z2 : (Str.ofString "page " ++ Str.ofString (toString n)).length + (Str.ofString " is not clear").length ≤ sizeLine := line_len (by
      have e1 : (Str.ofString "page ").length = 5 := by decide
      have e2 : (Str.ofString " is not clear").length = 13 := by decide
      have e3 : (Str.ofString "page " ++ Str.ofString (toString n)).length = (Str.ofString "page ").length + (Str.ofString (toString n)).length := PySem.Str.length_append _ _
      omega)
    walk_at "begin"
    walk_at "go"
    refine x_veK o ha ?_ (Nat.le_of_ble_eq_true rfl)
    dsimp only
    refine x_ost ?_
    walk_at "go"
    exact ⟨a, _, rfl, o, hn, .inl ⟨ha, q⟩⟩
def spGoodB (T : Txt K mg) : Sp := fun vs H Q E => ∃ (r : Addr) (F : CF) (c : Cs) (n : Int), vs = [.ref r, .int n] ∧ ChipAt T.C_Chip H r F c ∧ 0 ≤ n ∧ n < c.b ∧ (c.broken.getD n.toNat false = false → Q .non H) ∧
  (c.broken.getD n.toNat false = true → ∀ d H1, Same H H1 → H d = none → H1 d = some (.xd [("block", .int n)]) → E (.ref T.C_BlockFailed) (some d) H1)
theorem ok_Chip_need_good (T : Txt K mg) : FO P w K mg base 3 T.a_Chip_need_good T.fd_Chip_need_good ["self", "block"] (spGoodB T) := by
  have sc := sc_Chip_need_good
  refine T.F_Chip_need_good.okX sc (fun vs H Q E h => ?_) (fun cdv A outer s H vs Q E hr h => ?_)
  · obtain ⟨_, _, _, _, rfl, _⟩ := h
    rfl
  · obtain ⟨r, F, c, n, rfl, hC, h0, h1, q1, q2⟩ := h
    refine ⟨_, (pss_one (ps_if (pt_truth (pe_ix ix_seq (pe_fld (pv 0) rfl) (pv 1) (fun _ _ => rfl)) (by intro _; rfl)) (pss_one (ps_raiseK rfl (takes_of rfl rfl rfl rfl) (pmk_oex T.xi_BlockFailed.o T.xi_BlockFailed.i T.xi_BlockFailed.t (ok_BlockFailed_init T) (hr.mono (by decide)) T.bd_BlockFailed_init .nil passE0 rfl T.g_BlockFailed (pa_cons (pv 1) pa_nil)))) pss_nil)), ?_⟩
    have ho := hC.obj
    have hbr := hC.br
    have hsz := hC.sz.broken
    have hb := hC.sz.b
    unfold chipF at ho
    walk_at "begin"
    walk_at "go"
    refine x_iteB (fun h => ?_) (fun h => ?_)
    · walk_at "go"
      refine x_moK ⟨n, rfl, h0, by omega⟩ (fun d H1 hd hs hx => q2 h d H1 hs hd hx) T.xi_BlockFailed.o T.nx_BlockFailed_block
    · walk_at "go"
      exact q1 h
theorem x_mGoodB {T : Txt K mg} {H : Hp} {Q : VK} {E : XK} {σ : L2.St} {r : Addr} {F : CF} {c : Cs} {t : TA} (hC : ChipAt T.C_Chip H r F c) (h : t σ H fun vs H2 => spGoodB T (.ref r :: vs) H2 Q E) : mtK P w K mg base (L2.CX P w) 3 "need_good" E σ t Q (.ref r) H :=
  x_mtK hC.obj ⟨⟨_, _, _, T.cl_Chip, T.m_Chip_need_good, ok_Chip_need_good T, T.bd_Chip_need_good⟩⟩ rfl h
/-! a deed begins -/
def Cs.tick (c : Cs) (n : Nat) (well : Bool) : Cs := { c with left := c.left.map (· - 1), tried := c.tried.set n (c.tried.getD n 0 + 1), broken := c.broken.set n (!well) }
def Cs.well (c : Cs) (n : Nat) (worn : Bool) : Bool := !worn && !decide (V.int (c.tried.getD n 0) = c.lasts.getD n .non)
theorem Sizes.tick {c : Cs} (h : Sizes c) (n : Nat) (well : Bool) : Sizes (c.tick n well) := ⟨h.b, h.p, h.m, h.lasts, h.stuff, by show ((c.tried.set _ _).length : Int) = _; rw [List.length_set]; exact h.tried, h.clr, by show ((c.broken.set _ _).length : Int) = _; rw [List.length_set]; exact h.broken, h.lsc⟩
def spGoes (T : Txt K mg) : Sp := fun vs H Q _ => ∃ (r : Addr) (F : CF) (c : Cs) (n : Int) (worn : Bool), vs = [.ref r, .int n, .bl worn] ∧ ChipAt T.C_Chip H r F c ∧ 0 ≤ n ∧ n < c.b ∧
  ∀ H', Off (F.all r) H H' → ChipAt T.C_Chip H' r F (c.tick n.toNat (c.well n.toNat worn)) → Q (.bl (c.well n.toNat worn)) H'
theorem lsc_scal {c : Cs} (h : Sizes c) {n : Nat} (hn : (n : Int) < c.b) {m : Int} : scal (.int m) (c.lasts.getD n .non) = true := by
  have hl := h.lasts
  have hlt : n < c.lasts.length := by omega
  rcases h.lsc _ (List.getElem_mem hlt) with e | ⟨k, e⟩ <;> simp [hlt, e, scal]
theorem ok_Chip_goes_well (T : Txt K mg) : FO P w K mg base 1 T.a_Chip_goes_well T.fd_Chip_goes_well ["self", "block", "worn"] (spGoes T) := by
  have sc := sc_Chip_goes_well
  refine T.F_Chip_goes_well.okX sc (fun vs H Q E h => ?_) (fun cdv A outer s H vs Q E hr h => ?_)
  · obtain ⟨_, _, _, _, _, rfl, _⟩ := h
    rfl
  · obtain ⟨r, F, c, n, worn, rfl, hC, h0, h1, q⟩ := h
    refine ⟨_, (pss_cons (ps_if (pt_cmpR op_uIsNot (pe_fld (pv 0) rfl) pe_non (nomark _)) (pss_one (ps_fldaug (pv 0) pe_int in_sub)) pss_nil)
      (pss_cons (ps_set (i := 3) sc.nd rfl (by first | exact Or.inl rfl | exact Or.inr rfl) (pe_andT (pe_notT (pv 2)) (pe_one (pe_cmpR (op_uNe hr.units) (pe_ix ix_seq (pe_fld (pv 0) rfl) (pv 1) (fun _ _ => rfl)) (pe_ix ix_seq (pe_fld (pv 0) rfl) (pv 1) (fun _ _ => rfl)) (nomark _)))))
      (pss_cons (ps_augS (pe_fld (pv 0) rfl) (pv 1) get_list pe_int ip_add set_list)
      (pss_cons (ps_asg (pe_notT (pv 3)) (pg_sub (pe_fld (pv 0) rfl) (pv 1) set_list))
      (pss_one (ps_ret (pv 3))))))), ?_⟩
    obtain ⟨⟨n1, n2, n3, n4, n5, n6⟩, ⟨n7, n8, n9, n10, n11⟩, ⟨n12, n13, n14, n15⟩, ⟨n16, n17, n18⟩, ⟨n19, n20⟩, n21⟩ := hC.ne
    have ho := hC.obj
    have hla := hC.la
    have hst := hC.st
    have htr := hC.tr
    have hcl := hC.cl
    have hbr := hC.br
    have hsz := hC.sz
    obtain ⟨lvs, hlg, hlog⟩ := hC.lg
    have z1 := hsz.lasts
    have z2 := hsz.tried
    have z3 := hsz.broken
    unfold chipF at ho
    walk_at "begin"
    refine x_join (fun σ' H1 => σ' = [some (.ref r), some (.int n), some (.bl worn), none] ∧ Off [r] H H1 ∧ H1 r = some (.ins T.C_Chip F.dx (chipF F (c.tick n.toNat (c.well n.toNat worn))))) (fun R hR => ?_) ?_
    · walk_at "go"
      cases hl : c.left with
      | none =>
        rw [hl] at ho
        refine iteT ?_
        walk_at "go"
        refine hR _ _ ⟨rfl, Off.refl, ?_⟩
        rw [ho]
        unfold chipF Cs.tick
        rw [hl]
        rfl
      | some m =>
        rw [hl] at ho
        refine iteF ?_
        walk_at "go"
        refine x_faK ho rfl ?_ T.cl_Chip T.na_Chip_left
        walk_at "go"
        refine x_rSub ?_
        refine x_f3O (fs' := chipF F (c.tick n.toNat (c.well n.toNat worn))) ho ?_ (fun H1 hO hI => ?_) (Nat.le_of_ble_eq_true rfl)
        · unfold chipF Cs.tick
          rw [hl]
          rfl
        · exact hR _ _ ⟨rfl, hO, hI⟩
    intro σ' H1 ⟨hσ, hO1, ho1⟩
    subst hσ
    have ho1' := ho1
    unfold chipF at ho1
    refine x_join (fun σ' H' => σ' = [some (.ref r), some (.int n), some (.bl worn), some (.bl (c.well n.toNat worn))] ∧ H' = H1) (fun R hR => ?_) ?_
    · walk_at "go"
      cases worn with
      | true => exact iteT (hR _ _ ⟨rfl, rfl⟩)
      | false =>
        refine iteF ?_
        walk_at "go"
        refine x_neSc (lsc_scal hsz (n := n.toNat) (by omega)) ?_
        exact hR _ _ ⟨rfl, rfl⟩
    intro σ' H' ⟨hσ, hH⟩
    subst hσ hH
    walk_at "go"
    rename_i H2 hO2 hI2 H3 hO3 hI3
    have f1 : H3 r = some (.ins T.C_Chip F.dx (chipF F (c.tick n.toNat (c.well n.toNat worn)))) := by walk_at "hp"
    have f2 : H3 F.la = some (.lst c.lasts) := by walk_at "hp"
    have f3 : H3 F.st = some (.lst c.stuff) := by walk_at "hp"
    have f4 : H3 F.cl = some (.lst (c.clr.map V.int)) := by walk_at "hp"
    have f5 : H3 F.lg = some (.lst lvs) := by walk_at "hp"
    have f6 : H3 F.tr = some (.lst ((c.tried.set n.toNat (c.tried.getD n.toNat 0 + 1)).map V.int)) := by
      rw [List.map_set]
      walk_at "hp"
    have f7 : H3 F.br = some (.lst ((c.broken.set n.toNat (!c.well n.toNat worn)).map V.bl)) := by
      rw [List.map_set]
      exact hI3
    have hoff : Off (F.all r) H H3 := by unfold CF.all; walk_at "off"
    exact q H3 hoff ⟨f1, f2, f3, f6, f4, f7, ⟨lvs, f5, hlog.mono (hC.tups hoff)⟩, hC.nd, hsz.tick _ _⟩
theorem x_mGoes {T : Txt K mg} {H : Hp} {Q : VK} {E : XK} {σ : L2.St} {r : Addr} {F : CF} {c : Cs} {t : TA} (hC : ChipAt T.C_Chip H r F c) (h : t σ H fun vs H2 => spGoes T (.ref r :: vs) H2 Q E) : mtK P w K mg base (L2.CX P w) 1 "goes_well" E σ t Q (.ref r) H :=
  x_mtK hC.obj ⟨⟨_, _, _, T.cl_Chip, T.m_Chip_goes_well, ok_Chip_goes_well T, T.bd_Chip_goes_well⟩⟩ rfl h
/-- how an asking ends, in a heap -/
def Fin (T : Txt K mg) (res : Res) (Qn : Hp → Prop) (E : XK) (H' : Hp) : Prop := match res with
  | .ok => Qn H'
  | .place => E (.ref T.C_NoPlace) none H'
  | .dark => E (.ref T.C_PowerGone) none H'
  | .failed b => ∀ d, H' d = some (.xd [("block", .int b)]) → E (.ref T.C_BlockFailed) (some d) H'
  | .clear n => ∀ d, H' d = some (.xd [("page", .int n)]) → E (.ref T.C_NotClear) (some d) H'
  | .value => False
theorem x_finOk {T : Txt K mg} {Qn : Hp → Prop} {E : XK} {H' : Hp} (h : Qn H') : Fin T .ok Qn E H' := h
theorem x_finDark {T : Txt K mg} {Qn : Hp → Prop} {E : XK} {H' : Hp} (h : E (.ref T.C_PowerGone) none H') : Fin T .dark Qn E H' := h
theorem x_finPlace {T : Txt K mg} {Qn : Hp → Prop} {E : XK} {H' : Hp} (h : E (.ref T.C_NoPlace) none H') : Fin T .place Qn E H' := h

/-! ### put -/
def Cs.said (c : Cs) (k : Nat) (w : Bool) (e : Str × Int) : Cs := { c.tick k w with log := c.log ++ [(e.1, e.2, w)] }
def Cs.putR (c : Cs) (o : Option Int) (v : V) : Res × Cs :=
  if inB o 0 (c.b * c.p - 1) = false then (.place, c) else if c.dark = true then (.dark, c)
  else if c.broken.getD (o.getD 0 / c.p).toNat false = true then (.failed (o.getD 0 / c.p), c)
  else if c.stuff.getD (o.getD 0).toNat .non ≠ .non then (.clear (o.getD 0), c)
  else if c.well (o.getD 0 / c.p).toNat false = true then (.ok, { c.said (o.getD 0 / c.p).toNat true ("put", o.getD 0) with stuff := c.stuff.set (o.getD 0).toNat v })
  else (.failed (o.getD 0 / c.p), c.said (o.getD 0 / c.p).toNat false ("put", o.getD 0))
theorem Sizes.said {c : Cs} (h : Sizes c) (n : Nat) (w : Bool) (e : Str × Int) : Sizes (c.said n w e) := ⟨(h.tick n w).b, h.p, h.m, h.lasts, h.stuff, (h.tick n w).tried, h.clr, (h.tick n w).broken, h.lsc⟩
theorem LogAll.snoc {H : Hp} {vs : List V} {es : List (Str × Int × Bool)} {v : V} {e : Str × Int × Bool} (h : LogAll H vs es) (hv : LogAt H v e) : LogAll H (vs ++ [v]) (es ++ [e]) := by
  refine ⟨by simp [h.1], fun i x y h1 h2 => ?_⟩
  by_cases hi : i < vs.length
  · rw [List.getElem?_append_left hi] at h1
    rw [List.getElem?_append_left (h.1 ▸ hi)] at h2
    exact h.2 i x y h1 h2
  · have e : i = vs.length := by
      have := (List.getElem?_eq_some_iff.mp h1).1
      simp at this
      omega
    subst e
    rw [List.getElem?_append_right (Nat.le_refl _)] at h1
    rw [h.1, List.getElem?_append_right (Nat.le_refl _)] at h2
    simp at h1 h2
    subst h1 h2
    exact hv
local macro_rules | `(tactic| walk_at "u") => `(tactic| ((with_reducible refine' x_appO ?ho ?_ ?hl); (case ho => walk_at "hp"); (try (case hl => walk_at "side")); intro H1 hO hI; (try dsimp only)))
def spPut (T : Txt K mg) : Sp := fun vs H Q E => ∃ (r : Addr) (F : CF) (c : Cs) (vp v : V) (o : Option Int), vs = [.ref r, vp, v] ∧ ChipAt T.C_Chip H r F c ∧ Num vp o ∧ c.log.length < 900000 ∧
  ∀ H', Off (F.all r) H H' → ChipAt T.C_Chip H' r F (c.putR o v).2 → Fin T (c.putR o v).1 (Q .non) E H'
theorem ok_Chip_put (T : Txt K mg) : FO P w K mg base 4 T.a_Chip_put T.fd_Chip_put ["self", "page", "stuff"] (spPut T) := by
  have sc := sc_Chip_put
  refine T.F_Chip_put.okX sc (fun vs H Q E h => ?_) (fun cdv A outer s H vs Q E hr h => ?_)
  · obtain ⟨_, _, _, _, _, _, rfl, _⟩ := h
    rfl
  · obtain ⟨r, F, c, vp, v, o, rfl, hC, hn, hll, q⟩ := h
    refine ⟨_, (pss_cons (ps_expr (pe_methD (k := 3) (pv 0) (hr.mono (by decide)) (passAt (takes_of rfl rfl rfl rfl)) (pa_cons (pv 1) pa_nil)))
      (pss_cons (ps_expr (pe_methD0 (k := 2) (pv 0) (hr.mono (by decide)) (passAt (takes_of rfl rfl rfl rfl))))
      (pss_cons (ps_set (i := 3) sc.nd rfl (by first | exact Or.inl rfl | exact Or.inr rfl) (pe_op op_fdivW (pv 1) (pe_fld (pv 0) rfl)))
      (pss_cons (ps_expr (pe_methD (k := 3) (pv 0) (hr.mono (by decide)) (passAt (takes_of rfl rfl rfl rfl)) (pa_cons (pv 3) pa_nil)))
      (pss_cons (ps_if (pt_cmpR op_uIsNot (pe_ix ix_seq (pe_fld (pv 0) rfl) (pv 1) (fun _ _ => rfl)) pe_non (nomark _)) (pss_one (ps_raiseK rfl (takes_of rfl rfl rfl rfl) (pmk_oex T.xi_NotClear.o T.xi_NotClear.i T.xi_NotClear.t (ok_NotClear_init T) (hr.mono (by decide)) T.bd_NotClear_init .nil passE0 rfl T.g_NotClear (pa_cons (pv 1) pa_nil)))) pss_nil)
      (pss_cons (ps_set (i := 4) sc.nd rfl (by first | exact Or.inl rfl | exact Or.inr rfl) (pe_methD (k := 1) (pv 0) (hr.mono (by decide)) (passAt (takes_of rfl rfl rfl rfl)) (pa_cons (pv 3) (pa_cons pe_bl pa_nil))))
      (pss_cons (ps_expr (pe_bm PySem.F.plainAttrs_list PySem.F.slot_list_append PySem.F.type_list_append mt_append (pe_fld (pv 0) rfl) (pa_cons (pe_tup (pa_cons pe_str (pa_cons (pv 1) (pa_cons (pv 4) pa_nil)))) pa_nil)))
      (pss_cons (ps_if (pt_not (pt_truth (pv 4) (by intro _; rfl))) (pss_one (ps_raiseK rfl (takes_of rfl rfl rfl rfl) (pmk_oex T.xi_BlockFailed.o T.xi_BlockFailed.i T.xi_BlockFailed.t (ok_BlockFailed_init T) (hr.mono (by decide)) T.bd_BlockFailed_init .nil passE0 rfl T.g_BlockFailed (pa_cons (pv 3) pa_nil)))) pss_nil)
      (pss_one (ps_asg (pv 2) (pg_sub (pe_fld (pv 0) rfl) (pv 1) set_list))))))))))), ?_⟩
    unfold Cs.putR at q
    have hsz := hC.sz
    obtain ⟨hb1, hb2⟩ := hsz.b
    obtain ⟨hp1, hp2⟩ := hsz.p
    walk_at "begin"
    walk_at "go"
    refine x_mPage hC ?_
    walk_at "go"
    refine x_page hC hn (fun hin => ?_) (fun hin => ?_)
    rotate_left
    · rw [if_pos hin] at q
      exact q H Off.refl hC
    rw [if_neg (by rw [hin]; decide)] at q
    obtain ⟨n, rfl, rfl, h0, h1⟩ := hn.of_inB hin
    dsimp only [Option.getD] at q
    have hk0 : 0 ≤ n / c.p := Int.ediv_nonneg h0 (by omega)
    have hk1 : n / c.p < c.b := Int.ediv_lt_of_lt_mul (by omega) (by omega)
    walk_at "go"
    refine x_mPower hC (fun hd => ?_) (fun hd => ?_)
    rotate_left
    · rw [if_pos hd] at q
      exact q H Off.refl hC
    rw [if_neg (by rw [hd]; decide)] at q
    have ho := hC.obj
    unfold chipF at ho
    have hst := hC.st
    have z4 := hsz.stuff
    walk_at "go"
    refine x_mGoodB hC ?_
    walk_at "go"
    refine ⟨r, F, c, _, rfl, hC, hk0, hk1, fun hg => ?_, fun hg d H1 hs hd1 hx => ?_⟩
    rotate_left
    · rw [if_pos hg] at q
      exact q H1 (Off.of hs) (hC.mono hs) d hx
    rw [if_neg (by rw [hg]; decide)] at q
    walk_at "go"
    walk_at "if"
    have hbp : c.b * c.p ≤ 16 * 16 := Int.mul_le_mul hb2 hp2 (by omega) (by decide)
    refine x_iteD (fun hcl => ?_) (fun hcl => ?_)
    rotate_left
    · walk_at "go"
      refine x_moK ⟨n, rfl, h0, by omega⟩ (fun d H1 hd hs hx => ?_) T.xi_NotClear.o T.nx_NotClear_page
      rw [if_pos hcl] at q
      exact q H1 (Off.of hs) (hC.mono hs) d hx
    rw [if_neg (fun z => z hcl)] at q
    walk_at "go"
    refine x_mGoes hC ?_
    walk_at "go"
    refine ⟨r, F, c, n / c.p, false, rfl, hC, hk0, hk1, fun H1 hO1 hC1 => ?_⟩
    obtain ⟨⟨n1, n2, n3, n4, n5, n6⟩, ⟨n7, n8, n9, n10, n11⟩, ⟨n12, n13, n14, n15⟩, ⟨n16, n17, n18⟩, ⟨n19, n20⟩, n21⟩ := hC.ne
    have hsz1 := hsz.said (n / c.p).toNat (c.well (n / c.p).toNat false) ("put", n)
    have hlog := hC1.lg
    have o1' := hC1.obj
    have a1 := hC1.la
    have a2 := hC1.st
    have a3 := hC1.tr
    have a4 := hC1.cl
    have a5 := hC1.br
    obtain ⟨lvs, hlg, hla⟩ := hlog
    have hlv : lvs.length < sizeLine := Nat.lt_of_lt_of_le (m := 900000) (by rw [hla.1]; exact hll) (by decide)
    have hla1 : LogAll H1 lvs c.log := hla
    obtain ⟨w, hw⟩ : ∃ w, c.well (n / c.p).toNat false = w := ⟨_, rfl⟩
    have qT : w = true → ∀ H', Off (F.all r) H H' → ChipAt T.C_Chip H' r F { c.said (n / c.p).toNat true ("put", n) with stuff := c.stuff.set n.toNat v } → Q .non H' := fun h => by
      rw [if_pos (hw.trans h)] at q
      exact q
    have qF : w = false → ∀ H', Off (F.all r) H H' → ChipAt T.C_Chip H' r F (c.said (n / c.p).toNat false ("put", n)) → ∀ d, H' d = some (.xd [("block", .int (n / c.p))]) → E (.ref T.C_BlockFailed) (some d) H' := fun h => by
      rw [if_neg (by rw [hw, h]; decide)] at q
      exact q
    clear q
    rw [hw] at o1' a1 a2 a3 a4 a5 hsz1 hC1 ⊢
    have o1 := o1'
    unfold chipF at o1
    have hoff1 := hO1
    have hO1 := hoff1
    clear hO1
    walk_at "go"
    rename_i qt H2 hqt hs2 hn2 H3 hO3 hI3
    have f1 : H3 r = some (.ins T.C_Chip F.dx (chipF F (c.tick (n / c.p).toNat w))) := by walk_at "hp"
    have f2 : H3 F.la = some (.lst c.lasts) := by walk_at "hp"
    have f3 : H3 F.st = some (.lst c.stuff) := by walk_at "hp"
    have f4 : H3 F.cl = some (.lst (c.clr.map V.int)) := by walk_at "hp"
    have f6 : H3 F.tr = some (.lst ((c.tick (n / c.p).toNat w).tried.map V.int)) := by walk_at "hp"
    have f7 : H3 F.br = some (.lst ((c.tick (n / c.p).toNat w).broken.map V.bl)) := by walk_at "hp"
    have hoff13 : Off (F.all r) H1 H3 := by unfold CF.all; walk_at "off"
    have hoff3 := hoff1.trans hoff13
    have hq3 : H3 qt = some (.tup [.str "put", .int n, .bl w]) := hO3.at hn2 (nin_of (ne_of_none hlg hqt).symm)
    have hla3 : LogAll H3 (lvs ++ [.ref qt]) (c.log ++ [(("put" : Str), n, w)]) := ((hla1.mono (hC1.tups hoff13))).snoc ⟨qt, rfl, hq3⟩
    have hC3 : ChipAt T.C_Chip H3 r F (c.said (n / c.p).toNat w ("put", n)) := ⟨f1, f2, f3, f6, f4, f7, ⟨_, hI3, hla3⟩, hC.nd, hsz1⟩
    refine x_join (fun σ' H' => σ' = [some (.ref r), some (.int n), some v, some (.int (n / c.p)), some (.bl w)] ∧ H' = H3 ∧ w = true) (fun R hR => ?_) ?_
    · walk_at "go"
      refine x_iteB (fun h => ?_) (fun h => ?_)
      · walk_at "go"
        exact hR _ _ ⟨rfl, rfl, h⟩
      · subst h
        walk_at "go"
        refine x_moK ⟨n / c.p, rfl, hk0, by omega⟩ (fun d H4 hd hs hx => ?_) T.xi_BlockFailed.o T.nx_BlockFailed_block
        exact qF rfl H4 (hoff3.trans (Off.of hs)) (hC3.mono hs) d hx
    intro σ' H' ⟨hσ, hH, hwt⟩
    subst hσ hH hwt
    unfold chipF at f1
    have hC3' := hC3
    clear hoff13
    have hst3 : (n : Int) < c.stuff.length := by omega
    walk_at "go"
    rename_i H4 hO4 hI4
    have g1 : H4 r = some (.ins T.C_Chip F.dx (chipF F (c.tick (n / c.p).toNat true))) := by unfold chipF; walk_at "hp"
    have g2 : H4 F.la = some (.lst c.lasts) := by walk_at "hp"
    have g4 : H4 F.cl = some (.lst (c.clr.map V.int)) := by walk_at "hp"
    have g6 : H4 F.tr = some (.lst ((c.tick (n / c.p).toNat true).tried.map V.int)) := by walk_at "hp"
    have g7 : H4 F.br = some (.lst ((c.tick (n / c.p).toNat true).broken.map V.bl)) := by walk_at "hp"
    have g8 : H4 F.lg = some (.lst (lvs ++ [.ref qt])) := by walk_at "hp"
    have hoff34 : Off (F.all r) H' H4 := by unfold CF.all; walk_at "off"
    exact qT rfl H4 (hoff3.trans hoff34) ⟨g1, g2, hI4, g6, g4, g7, ⟨_, g8, hla3.mono (hC3'.tups hoff34)⟩, hC.nd, ⟨hsz1.b, hsz1.p, hsz1.m, hsz1.lasts, by show ((c.stuff.set _ _).length : Int) = _; rw [List.length_set]; exact hsz.stuff, hsz1.tried, hsz1.clr, hsz1.broken, hsz1.lsc⟩⟩
theorem x_mPut {T : Txt K mg} {H : Hp} {Q : VK} {E : XK} {σ : L2.St} {r : Addr} {F : CF} {c : Cs} {t : TA} (hC : ChipAt T.C_Chip H r F c) (h : t σ H fun vs H2 => spPut T (.ref r :: vs) H2 Q E) : mtK P w K mg base (L2.CX P w) 4 "put" E σ t Q (.ref r) H :=
  x_mtK hC.obj ⟨⟨_, _, _, T.cl_Chip, T.m_Chip_put, ok_Chip_put T, T.bd_Chip_put⟩⟩ rfl h

/-! ### a new chip -/
def endF (n : Int) : List (Option Int × Option Int) → List V → Option (List V)
  | [], l => some l
  | (b, g) :: r, l => if inB b 0 (n - 1) = true then if inB g 0 1000000 = true then if l.getD (b.getD 0).toNat .non = .non then endF n r (l.set (b.getD 0).toNat (.int (g.getD 0))) else none else none else none
theorem endF_cons {n : Int} {b g : Option Int} {r : List (Option Int × Option Int)} {l : List V} : endF n ((b, g) :: r) l = if inB b 0 (n - 1) = true then if inB g 0 1000000 = true then if l.getD (b.getD 0).toNat .non = .non then endF n r (l.set (b.getD 0).toNat (.int (g.getD 0))) else none else none else none := rfl
def IllsAt (H : Hp) (v : V) (is : List (Option Int × Option Int)) : Prop := (v = .non ∧ is = []) ∨ ∃ q vs, v = .ref q ∧ (H q = some (.lst vs) ∨ H q = some (.tup vs)) ∧ vs.length = is.length ∧ ∀ (i : Nat) x e, vs[i]? = some x → is[i]? = some e → ∃ t vb vg, x = .ref t ∧ H t = some (.tup [vb, vg]) ∧ Num vb e.1 ∧ Num vg e.2
def spEndu (T : Txt K mg) : Sp := fun vs H Q E => ∃ (n : Int) (vi : V) (is : List (Option Int × Option Int)), vs = [.int n, vi] ∧ 2 ≤ n ∧ n ≤ 16 ∧ IllsAt H vi is ∧
  (∀ l, endF n is (List.replicate n.toNat .non) = some l → ∀ p H', Same H H' → H p = none → H' p = some (.lst l) → Q (.ref p) H') ∧
  (endF n is (List.replicate n.toNat .non) = none → ∀ H', Same H H' → E (.ref T.C_NoChip) none H')
theorem ok_endurance (T : Txt K mg) : FO P w K mg base 3 T.a_endurance T.fd_endurance ["blocks", "ills"] (spEndu T) := by
  have sc := sc_endurance
  refine T.F_endurance.okX sc (fun vs H Q E h => ?_) (fun cdv A outer s H vs Q E hr h => ?_)
  · obtain ⟨_, _, _, rfl, _⟩ := h
    rfl
  · obtain ⟨n, vi, is, rfl, h2, h16, hi, q1, q2⟩ := h
    refine ⟨_, (pss_cons (ps_set (i := 2) sc.nd rfl (by first | exact Or.inl rfl | exact Or.inr rfl) (pe_op op_uMul (pe_lst (pa_cons pe_non pa_nil)) (pv 0)))
      (pss_cons (ps_if (pt_cmpR op_uIs (pv 1) pe_non (nomark _)) (pss_one (ps_ret (pv 2))) pss_nil)
      (pss_cons (ps_for (passes_of rfl) rfl (pi_seq (pv 1)) (pg_tup (by rfl) (pgs_cons (pg_name (i := 3) sc.nd rfl (by first | exact Or.inl rfl | exact Or.inr rfl)) (pgs_cons (pg_name (i := 4) sc.nd rfl (by first | exact Or.inl rfl | exact Or.inr rfl)) pgs_nil))) (pss_cons (ps_if (PW.pt (pw_or (pt_not (pt_truth (pe_callS (ok_is_within T) (hr.mono (by decide)) (by rfl) T.g_is_within T.k_is_within T.bd_is_within (passAt (takes_of rfl rfl rfl rfl)) (pa_cons (pv 3) (pa_cons pe_int (pa_cons (pe_op op_sub (pv 0) pe_int) pa_nil)))) (by intro _; rfl))) (pw_or1 (pt_not (pt_truth (pe_callS (ok_is_within T) (hr.mono (by decide)) (by rfl) T.g_is_within T.k_is_within T.bd_is_within (passAt (takes_of rfl rfl rfl rfl)) (pa_cons (pv 4) (pa_cons pe_int (pa_cons (pe_glob rfl T.g_MOST T.r_MOST) pa_nil)))) (by intro _; rfl)))))) (pss_one (ps_raiseK rfl (takes_of rfl rfl rfl rfl) (pmk_ownK T.xc_NoChip T.g_NoChip rfl))) pss_nil)
      (pss_cons (ps_if (pt_cmpR op_uIsNot (pe_ix ix_seq (pv 2) (pv 3) (fun _ _ => rfl)) pe_non (nomark _)) (pss_one (ps_raiseK rfl (takes_of rfl rfl rfl rfl) (pmk_ownK T.xc_NoChip T.g_NoChip rfl))) pss_nil)
      (pss_one (ps_asg (pv 4) (pg_sub (pv 2) (pv 3) set_list))))))
      (pss_one (ps_ret (pv 2)))))), ?_⟩
    walk_at "begin"
    walk_at "go"
    rename_i p0 H0 hp0 hs0 hn0 p H1 hp hs1 hn1
    have hpH : H p = none := same_none hs0 hp
    have s01 : Same H H1 := hs0.trans hs1
    rcases hi with ⟨rfl, rfl⟩ | ⟨qi, vs, rfl, hq, hlen, hall⟩
    · walk_at "if"
      refine iteT ?_
      walk_at "go"
      exact q1 _ rfl p H1 s01 hpH hn1
    · walk_at "if"
      refine iteF ?_
      walk_at "go"
      refine x_seq ?_
      walk_at "go"
      obtain ⟨kq, hkq⟩ := sqB_of (K := K) hq
      refine x_frS (hkq _ s01) (fun i σ H2 => ∃ (v3 v4 : Option V) (l : List V), σ = [some (.int n), some (.ref qi), some (.ref p), v3, v4] ∧ Same H H2 ∧ H2 p = some (.lst l) ∧ (l.length : Int) = n ∧ (∀ x ∈ l, x = .non ∨ ∃ k : Int, x = .int k) ∧ endF n is (List.replicate n.toNat .non) = endF n (is.drop i) l)
        ⟨_, _, _, rfl, s01, hn1, by rw [List.length_replicate]; omega, fun x hx => .inl (List.eq_of_mem_replicate hx), rfl⟩ (fun i σ H2 _ ⟨_, _, _, _, hs2, _⟩ => hkq _ hs2) ?_ ?_
      · intro i x σ H2 hx ⟨v3, v4, l, hσ, hs2, hp2, hll, hlx, he⟩
        subst hσ
        have hil := (List.getElem?_eq_some_iff.mp hx).1
        obtain ⟨t, vb, vg, rfl, ht, hnb, hng⟩ := hall i x _ hx (List.getElem?_eq_getElem (hlen ▸ hil))
        have hil2 : i < is.length := hlen ▸ hil
        rw [List.drop_eq_getElem_cons hil2] at he
        generalize is[i] = e at hnb hng he
        obtain ⟨eb, eg⟩ := e
        dsimp only at hnb hng
        rw [endF_cons] at he
        have ht2 := hs2 _ _ ht
        refine x_gtup2 (SqT.of ht2) ?_
        dsimp only [List.set]
        walk_at "if"
        refine x_wNum hnb ?_
        walk_at "go"
        refine x_iteB (fun hb => ?_) (fun hb => ?_)
        rotate_left
        · rw [if_neg (by rw [hb]; decide)] at he
          walk_at "go"
          exact q2 he H2 hs2
        rw [if_pos hb] at he
        obtain ⟨b, rfl, rfl, hb1, hb2⟩ := hnb.of_inB hb
        walk_at "go"
        refine x_wNum hng ?_
        walk_at "go"
        refine x_iteB (fun hg => ?_) (fun hg => ?_)
        rotate_left
        · rw [if_neg (by rw [hg]; decide)] at he
          walk_at "go"
          exact q2 he H2 hs2
        rw [if_pos hg] at he
        obtain ⟨g, rfl, rfl, hg1, hg2⟩ := hng.of_inB hg
        dsimp only [Option.getD_some] at he
        walk_at "go"
        walk_at "if"
        refine x_iteD (fun hl => ?_) (fun hl => ?_)
        rotate_left
        · rw [if_neg hl] at he
          walk_at "go"
          exact q2 he H2 hs2
        rw [if_pos hl] at he
        walk_at "go"
        rename_i H3 hO3 hI3
        refine ⟨_, _, l.set b.toNat (.int g), rfl, Off.same1 hs2 hO3 hpH, hI3, by rw [List.length_set]; exact hll, fun x hx => ?_, he⟩
        rcases List.mem_or_eq_of_mem_set hx with hx | hx
        · exact hlx x hx
        · exact .inr ⟨g, hx⟩
      · intro σ H2 ⟨v3, v4, l, hσ, hs2, hp2, hll, hlx, he⟩
        subst hσ
        rw [hlen, List.drop_length] at he
        walk_at "go"
        exact q1 l he p H2 hs2 hpH hp2
theorem x_endu {T : Txt K mg} {H : Hp} {Q : VK} {E : XK} {n : Int} {vi : V} {is : List (Option Int × Option Int)} (hi : IllsAt H vi is)
  (q1 : ∀ l, endF n is (List.replicate n.toNat .non) = some l → ∀ p H', Same H H' → H p = none → H' p = some (.lst l) → Q (.ref p) H')
  (q2 : endF n is (List.replicate n.toNat .non) = none → ∀ H', Same H H' → E (.ref T.C_NoChip) none H') (h2 : 2 ≤ n ∧ n ≤ 16) : spEndu T [.int n, vi] H Q E := ⟨n, vi, is, rfl, h2.1, h2.2, hi, q1, q2⟩
theorem endF_len {n : Int} : ∀ {is : List (Option Int × Option Int)} {l l' : List V}, endF n is l = some l' → (∀ x ∈ l, x = .non ∨ ∃ k : Int, x = .int k) → l'.length = l.length ∧ ∀ x ∈ l', x = .non ∨ ∃ k : Int, x = .int k
  | [], l, l', h, hx => by cases h; exact ⟨rfl, hx⟩
  | (b, g) :: r, l, l', h, hx => by
    unfold endF at h
    split at h
    · split at h
      · split at h
        · obtain ⟨h1, h2⟩ := endF_len h (fun x m => by
            rcases List.mem_or_eq_of_mem_set m with m | m
            · exact hx x m
            · exact .inr ⟨_, m⟩)
          rw [List.length_set] at h1
          exact ⟨h1, h2⟩
        · cases h
      · cases h
    · cases h
def Cs.new (b p m : Int) (l : List V) : Cs := { b, p, m, lasts := l, stuff := List.replicate (b * p).toNat .non, tried := List.replicate b.toNat 0, clr := List.replicate b.toNat 0, broken := List.replicate b.toNat false, left := none, log := [] }
def chipGood (b p m : Option Int) : Bool := inB b 2 16 && inB p 1 16 && inB m 0 1000000
def spCInit (T : Txt K mg) : Sp := fun vs H Q E => ∃ (r dx : Addr) (vb vp vm vi : V) (b p m : Option Int) (is : List (Option Int × Option Int)), vs = [.ref r, vb, vp, vm, vi] ∧ H r = some (.ins T.C_Chip dx []) ∧ Num vb b ∧ Num vp p ∧ Num vm m ∧ IllsAt H vi is ∧
  (chipGood b p m = true → ∀ l, endF (b.getD 0) is (List.replicate (b.getD 0).toNat .non) = some l → ∀ F H', Off [r] H H' → (∀ a ∈ F.all r, a ≠ r → H a = none) → ChipAt T.C_Chip H' r F (Cs.new (b.getD 0) (p.getD 0) (m.getD 0) l) → Q .non H') ∧
  ((chipGood b p m = false ∨ endF (b.getD 0) is (List.replicate (b.getD 0).toNat .non) = none) → ∀ H', Off [r] H H' → E (.ref T.C_NoChip) none H')
theorem ok_Chip_init (T : Txt K mg) : FO P w K mg base 4 T.a_Chip_init T.fd_Chip_init ["self", "blocks", "pages", "most", "ills"] (spCInit T) := by
  have sc := sc_Chip_init
  refine T.F_Chip_init.okX sc (fun vs H Q E h => ?_) (fun cdv A outer s H vs Q E hr h => ?_)
  · obtain ⟨_, _, _, _, _, _, _, _, _, _, rfl, _⟩ := h
    rfl
  · obtain ⟨r, dx, vb, vp, vm, vi, b, p, m, is, rfl, hR, nb, np, nm, hi, q1, q2⟩ := h
    refine ⟨_, (pss_cons (ps_if (PW.pt (pw_or (pt_not (pt_truth (pe_callS (ok_is_within T) (hr.mono (by decide)) (by rfl) T.g_is_within T.k_is_within T.bd_is_within (passAt (takes_of rfl rfl rfl rfl)) (pa_cons (pv 1) (pa_cons pe_int (pa_cons (pe_glob rfl T.g_MANY T.r_MANY) pa_nil)))) (by intro _; rfl))) (pw_or (pt_not (pt_truth (pe_callS (ok_is_within T) (hr.mono (by decide)) (by rfl) T.g_is_within T.k_is_within T.bd_is_within (passAt (takes_of rfl rfl rfl rfl)) (pa_cons (pv 2) (pa_cons pe_int (pa_cons (pe_glob rfl T.g_MANY T.r_MANY) pa_nil)))) (by intro _; rfl))) (pw_or1 (pt_not (pt_truth (pe_callS (ok_is_within T) (hr.mono (by decide)) (by rfl) T.g_is_within T.k_is_within T.bd_is_within (passAt (takes_of rfl rfl rfl rfl)) (pa_cons (pv 3) (pa_cons pe_int (pa_cons (pe_glob rfl T.g_MOST T.r_MOST) pa_nil)))) (by intro _; rfl))))))) (pss_one (ps_raiseK rfl (takes_of rfl rfl rfl rfl) (pmk_ownK T.xc_NoChip T.g_NoChip rfl))) pss_nil)
      (pss_cons (ps_fld (pv 0) (pv 1) rfl)
      (pss_cons (ps_fld (pv 0) (pv 2) rfl)
      (pss_cons (ps_fld (pv 0) (pv 3) rfl)
      (pss_cons (ps_fld (pv 0) (pe_callS (ok_endurance T) (hr.mono (by decide)) (by rfl) T.g_endurance T.k_endurance T.bd_endurance (passAt (takes_of rfl rfl rfl rfl)) (pa_cons (pv 1) (pa_cons (pv 4) pa_nil))) rfl)
      (pss_cons (ps_fld (pv 0) (pe_op op_uMul (pe_lst (pa_cons pe_non pa_nil)) (pe_op op_uMul (pv 1) (pv 2))) rfl)
      (pss_cons (ps_fld (pv 0) (pe_op op_uMul (pe_lst (pa_cons pe_int pa_nil)) (pv 1)) rfl)
      (pss_cons (ps_fld (pv 0) (pe_op op_uMul (pe_lst (pa_cons pe_int pa_nil)) (pv 1)) rfl)
      (pss_cons (ps_fld (pv 0) (pe_op op_uMul (pe_lst (pa_cons pe_bl pa_nil)) (pv 1)) rfl)
      (pss_cons (ps_fld (pv 0) pe_non rfl)
      (pss_one (ps_fld (pv 0) (pe_lst pa_nil) rfl)))))))))))), ?_⟩
    walk_at "begin"
    walk_at "if"
    refine x_wNum nb ?_
    walk_at "go"
    refine x_iteB (fun hb => ?_) (fun hb => ?_)
    rotate_left
    · walk_at "go"
      exact q2 (.inl (by unfold chipGood; rw [hb]; rfl)) H Off.refl
    obtain ⟨b, rfl, rfl, hb1, hb2⟩ := nb.of_inB hb
    walk_at "go"
    refine x_wNum np ?_
    walk_at "go"
    refine x_iteB (fun hp => ?_) (fun hp => ?_)
    rotate_left
    · walk_at "go"
      exact q2 (.inl (by unfold chipGood; rw [hb, hp]; rfl)) H Off.refl
    obtain ⟨p, rfl, rfl, hp1, hp2⟩ := np.of_inB hp
    walk_at "go"
    refine x_wNum nm ?_
    walk_at "go"
    refine x_iteB (fun hm => ?_) (fun hm => ?_)
    rotate_left
    · walk_at "go"
      exact q2 (.inl (by unfold chipGood; rw [hb, hp, hm]; rfl)) H Off.refl
    obtain ⟨m, rfl, rfl, hm1, hm2⟩ := nm.of_inB hm
    have hgood : chipGood (some b) (some p) (some m) = true := by unfold chipGood; rw [hb, hp, hm]; rfl
    dsimp only [Option.getD_some] at q1 q2
    walk_at "go"
    rename_i H1 hO1 hI1 H2 hO2 hI2 H3 hO3 hI3
    have hO : Off [r] H H3 := (hO1.trans hO2).trans hO3
    have hi3 : IllsAt H3 vi is := by
      rcases hi with h | ⟨q, vs, e, hq, hl, hall⟩
      · exact .inl h
      · refine .inr ⟨q, vs, e, hq.imp (fun z => hO.lst hR z) (fun z => hO.tup hR z), hl, fun i x y h1 h2 => ?_⟩
        obtain ⟨t, vb, vg, e, ht, r⟩ := hall i x y h1 h2
        exact ⟨t, vb, vg, e, hO.tup hR ht, r⟩
    refine x_endu hi3 (fun l hl la H4 hs4 hla hlal => ?_) (fun hl H4 hs4 => q2 (.inr hl) H4 (hO.trans (Off.of hs4))) ⟨hb1, hb2⟩
    have hbp0 : 0 ≤ b * p := Int.mul_nonneg (by omega) (by omega)
    have hbp : b * p ≤ 16 * 16 := Int.mul_le_mul hb2 hp2 (by omega) (by decide)
    clear hO
    walk_at "go"
    rename_i H5 hO5 hI5 x1 G1 hx1 sx1 nx1 x2 G2 hx2 sx2 nx2 H6 hO6 hI6 y1 G3 hy1 sy1 ny1 y2 G4 hy2 sy2 ny2 H7 hO7 hI7 z1 G5 hz1 sz1 nz1 z2 G6 hz2 sz2 nz2 H8 hO8 hI8 w1 G7 hw1 sw1 nw1 w2 G8 hw2 sw2 nw2 H9 hO9 hI9 H10 hO10 hI10 u1 G9 hu1 su1 nu1 H11 hO11 hI11
    have d1 : r ≠ la := by walk_at "nn"
    have d2 : r ≠ x2 := by walk_at "nn"
    have d3 : la ≠ x2 := by walk_at "nn"
    have d4 : r ≠ y2 := by walk_at "nn"
    have d5 : la ≠ y2 := by walk_at "nn"
    have d6 : x2 ≠ y2 := by walk_at "nn"
    have d7 : r ≠ z2 := by walk_at "nn"
    have d8 : la ≠ z2 := by walk_at "nn"
    have d9 : x2 ≠ z2 := by walk_at "nn"
    have d10 : y2 ≠ z2 := by walk_at "nn"
    have d11 : r ≠ w2 := by walk_at "nn"
    have d12 : la ≠ w2 := by walk_at "nn"
    have d13 : x2 ≠ w2 := by walk_at "nn"
    have d14 : y2 ≠ w2 := by walk_at "nn"
    have d15 : z2 ≠ w2 := by walk_at "nn"
    have d16 : r ≠ u1 := by walk_at "nn"
    have d17 : la ≠ u1 := by walk_at "nn"
    have d18 : x2 ≠ u1 := by walk_at "nn"
    have d19 : y2 ≠ u1 := by walk_at "nn"
    have d20 : z2 ≠ u1 := by walk_at "nn"
    have d21 : w2 ≠ u1 := by walk_at "nn"
    have f1 : H11 la = some (.lst l) := by walk_at "hp"
    have f2 : H11 x2 = some (.lst (List.replicate (b * p).toNat .non)) := by walk_at "hp"
    have f3 : H11 y2 = some (.lst (List.replicate b.toNat (.int 0))) := by walk_at "hp"
    have f4 : H11 z2 = some (.lst (List.replicate b.toNat (.int 0))) := by walk_at "hp"
    have f5 : H11 w2 = some (.lst (List.replicate b.toNat (.bl false))) := by walk_at "hp"
    have f6 : H11 u1 = some (.lst []) := by walk_at "hp"
    have k1 : H la = none := by
      refine off_none (H1 := H3) ?_ hla d1.symm
      walk_at "off"
    have k2 : H x2 = none := by
      refine off_none (H1 := G1) ?_ hx2 d2.symm
      walk_at "off"
    have k3 : H y2 = none := by
      refine off_none (H1 := G3) ?_ hy2 d4.symm
      walk_at "off"
    have k4 : H z2 = none := by
      refine off_none (H1 := G5) ?_ hz2 d7.symm
      walk_at "off"
    have k5 : H w2 = none := by
      refine off_none (H1 := G7) ?_ hw2 d11.symm
      walk_at "off"
    have k6 : H u1 = none := by
      refine off_none (H1 := H10) ?_ hu1 d16.symm
      walk_at "off"
    have hoff : Off [r] H H11 := by walk_at "off"
    obtain ⟨e1, e2⟩ := endF_len hl (fun x hx => .inl (List.eq_of_mem_replicate hx))
    rw [List.length_replicate] at e1
    refine q1 hgood l hl ⟨dx, la, x2, y2, z2, w2, u1⟩ H11 hoff (fun a ha hne => ?_) ⟨hI11, f1, f2, ?_, ?_, ?_, ⟨[], f6, rfl, fun i v e h => by simp at h⟩, ?_, ⟨⟨hb1, hb2⟩, ⟨hp1, hp2⟩, ⟨hm1, hm2⟩, ?_, ?_, ?_, ?_, ?_, e2⟩⟩
    · unfold CF.all at ha
      simp only [List.mem_cons, List.not_mem_nil, or_false] at ha
      rcases ha with rfl | rfl | rfl | rfl | rfl | rfl | rfl
      · exact absurd rfl hne
      · exact k1
      · exact k2
      · exact k3
      · exact k4
      · exact k5
      · exact k6
    · show H11 y2 = some (.lst ((List.replicate _ _).map V.int))
      rw [List.map_replicate]
      exact f3
    · show H11 z2 = some (.lst ((List.replicate _ _).map V.int))
      rw [List.map_replicate]
      exact f4
    · show H11 w2 = some (.lst ((List.replicate _ _).map V.bl))
      rw [List.map_replicate]
      exact f5
    · show [r, la, x2, y2, z2, w2, u1].Nodup
      simp only [List.nodup_cons, List.mem_cons, List.not_mem_nil, or_false, not_or, not_false_eq_true, List.nodup_nil, and_true]
      exact ⟨⟨d1, d2, d4, d7, d11, d16⟩, ⟨d3, d5, d8, d12, d17⟩, ⟨d6, d9, d13, d18⟩, ⟨d10, d14, d19⟩, ⟨d15, d20⟩, d21⟩
    · show (l.length : Int) = b
      omega
    · show ((List.replicate _ _).length : Int) = b * p
      rw [List.length_replicate]
      omega
    · show ((List.replicate _ _).length : Int) = b
      rw [List.length_replicate]
      omega
    · show ((List.replicate _ _).length : Int) = b
      rw [List.length_replicate]
      omega
    · show ((List.replicate _ _).length : Int) = b
      rw [List.length_replicate]
      omega
theorem ChipAt.there {C : Addr} {H : Hp} {r : Addr} {F : CF} {c : Cs} (h : ChipAt C H r F c) : ∀ a ∈ F.all r, ∃ o, H a = some o ∧ ∀ xs, o ≠ .tup xs := fun a ha => by
  obtain ⟨vs, e7, _⟩ := h.lg
  unfold CF.all at ha
  simp only [List.mem_cons, List.not_mem_nil, or_false] at ha
  rcases ha with rfl | rfl | rfl | rfl | rfl | rfl | rfl
  · exact ⟨_, h.obj, fun _ z => by cases z⟩
  · exact ⟨_, h.la, fun _ z => by cases z⟩
  · exact ⟨_, h.st, fun _ z => by cases z⟩
  · exact ⟨_, h.tr, fun _ z => by cases z⟩
  · exact ⟨_, h.cl, fun _ z => by cases z⟩
  · exact ⟨_, h.br, fun _ z => by cases z⟩
  · exact ⟨_, e7, fun _ z => by cases z⟩
theorem ChipAt.fresh {C : Addr} {H : Hp} {r : Addr} {F : CF} {c : Cs} (h : ChipAt C H r F c) {q : Addr} (hq : H q = none) : q ∉ F.all r := fun m => by
  obtain ⟨o, e, _⟩ := h.there q m
  rw [hq] at e; cases e
theorem tups_of {S : List Addr} {H H' : Hp} (h : ∀ a ∈ S, ∃ o, H a = some o ∧ ∀ xs, o ≠ .tup xs) (s : Off S H H') : TupS H H' := fun b ys e => s b _ (fun m => by
  obtain ⟨o, e2, n⟩ := h b m
  rw [e] at e2
  cases e2
  exact n _ rfl) e
theorem endF_nil {n : Int} {l : List V} : endF n [] l = some l := rfl
theorem x_cinit {T : Txt K mg} {H H1 : Hp} {Q : VK} {E : XK} {x dx : Addr} {b p : Int} (hB : 2 ≤ b ∧ b ≤ 16) (hP : 1 ≤ p ∧ p ≤ 16) (hx : H x = none) (hs : Same H H1) (hn : H1 x = some (.ins T.C_Chip dx []))
    (q : ∀ F H', Same H H' → (∀ a ∈ F.all x, H a = none) → ChipAt T.C_Chip H' x F (Cs.new b p 1000000 (List.replicate b.toNat .non)) → Q .non H') : spCInit T [.ref x, .int b, .int p, .int 1000000, .non] H1 Q E := by
  refine ⟨x, dx, _, _, _, _, some b, some p, some 1000000, [], rfl, hn, .int b, .int p, .int 1000000, .inl ⟨rfl, rfl⟩, fun hg l hl F H' hO hF hC => ?_, fun hno => ?_⟩
  · cases hl
    refine q F H' (Off.same1 hs hO hx) (fun a ha => ?_) hC
    by_cases e : a = x
    · rw [e]; exact hx
    · exact same_none hs (hF a ha e)
  · exfalso
    rcases hno with hno | hno
    · unfold chipGood inB at hno
      have e1 : decide (2 ≤ b ∧ b ≤ 16) = true := decide_eq_true hB
      have e2 : decide (1 ≤ p ∧ p ≤ 16) = true := decide_eq_true hP
      dsimp only at hno
      rw [e1, e2] at hno
      cases hno
    · cases hno

/-! ### reading, and what is told of a block -/
def spRead (T : Txt K mg) : Sp := fun vs H Q E => ∃ (r : Addr) (F : CF) (c : Cs) (vp : V) (o : Option Int), vs = [.ref r, vp] ∧ ChipAt T.C_Chip H r F c ∧ Num vp o ∧ (inB o 0 (c.b * c.p - 1) = false → E (.ref T.C_NoPlace) none H) ∧
  (inB o 0 (c.b * c.p - 1) = true → c.dark = true → E (.ref T.C_PowerGone) none H) ∧ (inB o 0 (c.b * c.p - 1) = true → c.dark = false → Q (c.stuff.getD (o.getD 0).toNat .non) H)
theorem ok_Chip_read (T : Txt K mg) : FO P w K mg base 4 T.a_Chip_read T.fd_Chip_read ["self", "page"] (spRead T) := by
  have sc := sc_Chip_read
  refine T.F_Chip_read.okX sc (fun vs H Q E h => ?_) (fun cdv A outer s H vs Q E hr h => ?_)
  · obtain ⟨_, _, _, _, _, rfl, _⟩ := h
    rfl
  · obtain ⟨r, F, c, vp, o, rfl, hC, hn, q1, q2, q3⟩ := h
    refine ⟨_, (pss_cons (ps_expr (pe_methD (k := 3) (pv 0) (hr.mono (by decide)) (passAt (takes_of rfl rfl rfl rfl)) (pa_cons (pv 1) pa_nil)))
      (pss_cons (ps_expr (pe_methD0 (k := 2) (pv 0) (hr.mono (by decide)) (passAt (takes_of rfl rfl rfl rfl))))
      (pss_one (ps_ret (pe_ix ix_seq (pe_fld (pv 0) rfl) (pv 1) (fun _ _ => rfl)))))), ?_⟩
    walk_at "begin"
    walk_at "go"
    refine x_mPage hC ?_
    walk_at "go"
    refine x_page hC hn (fun hin => ?_) (fun hin => q1 hin)
    have q2' := q2 hin
    have q3' := q3 hin
    obtain ⟨n, rfl, rfl, h0, h1⟩ := hn.of_inB hin
    walk_at "go"
    refine x_mPower hC (fun hd => ?_) (fun hd => q2' hd)
    have ho := hC.obj
    unfold chipF at ho
    have hst := hC.st
    have z4 := hC.sz.stuff
    walk_at "go"
    exact q3' hd
theorem x_mRead {T : Txt K mg} {H : Hp} {Q : VK} {E : XK} {σ : L2.St} {r : Addr} {F : CF} {c : Cs} {t : TA} (hC : ChipAt T.C_Chip H r F c) (h : t σ H fun vs H2 => spRead T (.ref r :: vs) H2 Q E) : mtK P w K mg base (L2.CX P w) 4 "read" E σ t Q (.ref r) H :=
  x_mtK hC.obj ⟨⟨_, _, _, T.cl_Chip, T.m_Chip_read, ok_Chip_read T, T.bd_Chip_read⟩⟩ rfl h
/-- reading a page that is there, with power -/
theorem x_read {T : Txt K mg} {H : Hp} {Q : VK} {E : XK} {r : Addr} {F : CF} {c : Cs} {n : Int} (hC : ChipAt T.C_Chip H r F c) (hd : c.dark = false) (q : Q (c.stuff.getD n.toNat .non) H) (h : 0 ≤ n ∧ n < c.b * c.p) : spRead T [.ref r, .int n] H Q E :=
  ⟨r, F, c, _, some n, rfl, hC, .int n, (fun z => by simp [inB] at z; omega), (fun _ z => by rw [hd] at z; cases z), fun _ _ => q⟩

def spCleared (T : Txt K mg) : Sp := fun vs H Q E => ∃ (r : Addr) (F : CF) (c : Cs) (vp : V) (o : Option Int), vs = [.ref r, vp] ∧ ChipAt T.C_Chip H r F c ∧ Num vp o ∧ (inB o 0 (c.b - 1) = false → E (.ref T.C_NoPlace) none H) ∧
  (inB o 0 (c.b - 1) = true → Q (.int (c.clr.getD (o.getD 0).toNat 0)) H)
theorem ok_Chip_cleared (T : Txt K mg) : FO P w K mg base 4 T.a_Chip_cleared T.fd_Chip_cleared ["self", "block"] (spCleared T) := by
  have sc := sc_Chip_cleared
  refine T.F_Chip_cleared.okX sc (fun vs H Q E h => ?_) (fun cdv A outer s H vs Q E hr h => ?_)
  · obtain ⟨_, _, _, _, _, rfl, _⟩ := h
    rfl
  · obtain ⟨r, F, c, vp, o, rfl, hC, hn, q1, q3⟩ := h
    refine ⟨_, (pss_cons (ps_expr (pe_methD (k := 3) (pv 0) (hr.mono (by decide)) (passAt (takes_of rfl rfl rfl rfl)) (pa_cons (pv 1) pa_nil)))
      (pss_one (ps_ret (pe_ix ix_seq (pe_fld (pv 0) rfl) (pv 1) (fun _ _ => rfl))))), ?_⟩
    walk_at "begin"
    walk_at "go"
    refine x_mBlock hC ?_
    walk_at "go"
    refine x_block hC hn (fun hin => ?_) (fun hin => q1 hin)
    have q3' := q3 hin
    obtain ⟨n, rfl, rfl, h0, h1⟩ := hn.of_inB hin
    have ho := hC.obj
    unfold chipF at ho
    have hcl := hC.cl
    have z4 := hC.sz.clr
    walk_at "go"
    exact q3'
theorem x_mCleared {T : Txt K mg} {H : Hp} {Q : VK} {E : XK} {σ : L2.St} {r : Addr} {F : CF} {c : Cs} {t : TA} (hC : ChipAt T.C_Chip H r F c) (h : t σ H fun vs H2 => spCleared T (.ref r :: vs) H2 Q E) : mtK P w K mg base (L2.CX P w) 4 "cleared" E σ t Q (.ref r) H :=
  x_mtK hC.obj ⟨⟨_, _, _, T.cl_Chip, T.m_Chip_cleared, ok_Chip_cleared T, T.bd_Chip_cleared⟩⟩ rfl h
theorem x_cleared {T : Txt K mg} {H : Hp} {Q : VK} {E : XK} {r : Addr} {F : CF} {c : Cs} {n : Int} (hC : ChipAt T.C_Chip H r F c) (q : Q (.int (c.clr.getD n.toNat 0)) H) (h : 0 ≤ n ∧ n < c.b) : spCleared T [.ref r, .int n] H Q E :=
  ⟨r, F, c, _, some n, rfl, hC, .int n, (fun z => by simp [inB] at z; omega), fun _ => q⟩

def spFailed (T : Txt K mg) : Sp := fun vs H Q E => ∃ (r : Addr) (F : CF) (c : Cs) (vp : V) (o : Option Int), vs = [.ref r, vp] ∧ ChipAt T.C_Chip H r F c ∧ Num vp o ∧ (inB o 0 (c.b - 1) = false → E (.ref T.C_NoPlace) none H) ∧
  (inB o 0 (c.b - 1) = true → Q (.bl (c.broken.getD (o.getD 0).toNat false)) H)
theorem ok_Chip_failed (T : Txt K mg) : FO P w K mg base 4 T.a_Chip_failed T.fd_Chip_failed ["self", "block"] (spFailed T) := by
  have sc := sc_Chip_failed
  refine T.F_Chip_failed.okX sc (fun vs H Q E h => ?_) (fun cdv A outer s H vs Q E hr h => ?_)
  · obtain ⟨_, _, _, _, _, rfl, _⟩ := h
    rfl
  · obtain ⟨r, F, c, vp, o, rfl, hC, hn, q1, q3⟩ := h
    refine ⟨_, (pss_cons (ps_expr (pe_methD (k := 3) (pv 0) (hr.mono (by decide)) (passAt (takes_of rfl rfl rfl rfl)) (pa_cons (pv 1) pa_nil)))
      (pss_one (ps_ret (pe_ix ix_seq (pe_fld (pv 0) rfl) (pv 1) (fun _ _ => rfl))))), ?_⟩
    walk_at "begin"
    walk_at "go"
    refine x_mBlock hC ?_
    walk_at "go"
    refine x_block hC hn (fun hin => ?_) (fun hin => q1 hin)
    have q3' := q3 hin
    obtain ⟨n, rfl, rfl, h0, h1⟩ := hn.of_inB hin
    have ho := hC.obj
    unfold chipF at ho
    have hcl := hC.br
    have z4 := hC.sz.broken
    walk_at "go"
    exact q3'
theorem x_mFailed {T : Txt K mg} {H : Hp} {Q : VK} {E : XK} {σ : L2.St} {r : Addr} {F : CF} {c : Cs} {t : TA} (hC : ChipAt T.C_Chip H r F c) (h : t σ H fun vs H2 => spFailed T (.ref r :: vs) H2 Q E) : mtK P w K mg base (L2.CX P w) 4 "failed" E σ t Q (.ref r) H :=
  x_mtK hC.obj ⟨⟨_, _, _, T.cl_Chip, T.m_Chip_failed, ok_Chip_failed T, T.bd_Chip_failed⟩⟩ rfl h
theorem x_failed {T : Txt K mg} {H : Hp} {Q : VK} {E : XK} {r : Addr} {F : CF} {c : Cs} {n : Int} (hC : ChipAt T.C_Chip H r F c) (q : Q (.bl (c.broken.getD n.toNat false)) H) (h : 0 ≤ n ∧ n < c.b) : spFailed T [.ref r, .int n] H Q E :=
  ⟨r, F, c, _, some n, rfl, hC, .int n, (fun z => by simp [inB] at z; omega), fun _ => q⟩

def spDeeds (T : Txt K mg) : Sp := fun vs H Q _ => ∃ (r : Addr) (F : CF) (c : Cs), vs = [.ref r] ∧ ChipAt T.C_Chip H r F c ∧ ∀ p vs' H', Same H H' → H p = none → H' p = some (.lst vs') → LogAll H' vs' c.log → Q (.ref p) H'
theorem ok_Chip_deeds (T : Txt K mg) : FO P w K mg base 1 T.a_Chip_deeds T.fd_Chip_deeds ["self"] (spDeeds T) := by
  have sc := sc_Chip_deeds
  refine T.F_Chip_deeds.okX sc (fun vs H Q E h => ?_) (fun cdv A outer s H vs Q E hr h => ?_)
  · obtain ⟨_, _, _, rfl, _⟩ := h
    rfl
  · obtain ⟨r, F, c, rfl, hC, q⟩ := h
    refine ⟨_, (pss_one (ps_ret (pe_callTy ct_list (by rfl) T.b_list bt_list (pa_cons (pe_fld (pv 0) rfl) pa_nil)))), ?_⟩
    have ho := hC.obj
    unfold chipF at ho
    obtain ⟨lvs, hlg, hla⟩ := hC.lg
    walk_at "begin"
    walk_at "go"
    rename_i p H1 hp hs hn
    exact q p lvs H1 hs hp hn (hla.mono (TupS.of hs))
theorem x_mDeeds {T : Txt K mg} {H : Hp} {Q : VK} {E : XK} {σ : L2.St} {r : Addr} {F : CF} {c : Cs} (hC : ChipAt T.C_Chip H r F c) (h : spDeeds T [.ref r] H Q E) : mtK P w K mg base (L2.CX P w) 1 "deeds" E σ tNil Q (.ref r) H :=
  x_mtK hC.obj ⟨⟨_, _, _, T.cl_Chip, T.m_Chip_deeds, ok_Chip_deeds T, T.bd_Chip_deeds⟩⟩ rfl h

/-! ### wipe -/
/-- the pages of a block, put back to nothing: the first i of them -/
def blankN (l : List V) (s : Nat) : Nat → List V
  | 0 => l
  | i + 1 => (blankN l s i).set (s + i) .non
theorem blankN_len (l : List V) (s : Nat) : ∀ i, (blankN l s i).length = l.length
  | 0 => rfl
  | i + 1 => by
    show ((blankN l s i).set _ _).length = _
    rw [List.length_set, blankN_len l s i]
def Cs.wipeR (c : Cs) (o : Option Int) : Res × Cs :=
  if inB o 0 (c.b - 1) = false then (.place, c) else if c.dark = true then (.dark, c)
  else if c.broken.getD (o.getD 0).toNat false = true then (.failed (o.getD 0), c)
  else if c.well (o.getD 0).toNat (decide (c.clr.getD (o.getD 0).toNat 0 = c.m)) = true then (.ok, { c.said (o.getD 0).toNat true ("wipe", o.getD 0) with clr := c.clr.set (o.getD 0).toNat (c.clr.getD (o.getD 0).toNat 0 + 1), stuff := blankN c.stuff ((o.getD 0).toNat * c.p.toNat) c.p.toNat })
  else (.failed (o.getD 0), c.said (o.getD 0).toNat false ("wipe", o.getD 0))
def spWipe (T : Txt K mg) : Sp := fun vs H Q E => ∃ (r : Addr) (F : CF) (c : Cs) (vp : V) (o : Option Int), vs = [.ref r, vp] ∧ ChipAt T.C_Chip H r F c ∧ Num vp o ∧ c.log.length < 900000 ∧
  ∀ H', Off (F.all r) H H' → ChipAt T.C_Chip H' r F (c.wipeR o).2 → Fin T (c.wipeR o).1 (Q .non) E H'
theorem ok_Chip_wipe (T : Txt K mg) : FO P w K mg base 4 T.a_Chip_wipe T.fd_Chip_wipe ["self", "block"] (spWipe T) := by
  have sc := sc_Chip_wipe
  refine T.F_Chip_wipe.okX sc (fun vs H Q E h => ?_) (fun cdv A outer s H vs Q E hr h => ?_)
  · obtain ⟨_, _, _, _, _, rfl, _⟩ := h
    rfl
  · obtain ⟨r, F, c, vp, o, rfl, hC, hn, hll, q⟩ := h
    refine ⟨_, (pss_cons (ps_expr (pe_methD (k := 3) (pv 0) (hr.mono (by decide)) (passAt (takes_of rfl rfl rfl rfl)) (pa_cons (pv 1) pa_nil)))
      (pss_cons (ps_expr (pe_methD0 (k := 2) (pv 0) (hr.mono (by decide)) (passAt (takes_of rfl rfl rfl rfl))))
      (pss_cons (ps_expr (pe_methD (k := 3) (pv 0) (hr.mono (by decide)) (passAt (takes_of rfl rfl rfl rfl)) (pa_cons (pv 1) pa_nil)))
      (pss_cons (ps_set (i := 2) sc.nd rfl (by first | exact Or.inl rfl | exact Or.inr rfl) (pe_methD (k := 1) (pv 0) (hr.mono (by decide)) (passAt (takes_of rfl rfl rfl rfl)) (pa_cons (pv 1) (pa_cons (pe_cmpR (op_uEq hr.units) (pe_ix ix_seq (pe_fld (pv 0) rfl) (pv 1) (fun _ _ => rfl)) (pe_fld (pv 0) rfl) (nomark _)) pa_nil))))
      (pss_cons (ps_expr (pe_bm PySem.F.plainAttrs_list PySem.F.slot_list_append PySem.F.type_list_append mt_append (pe_fld (pv 0) rfl) (pa_cons (pe_tup (pa_cons pe_str (pa_cons (pv 1) (pa_cons (pv 2) pa_nil)))) pa_nil)))
      (pss_cons (ps_if (pt_not (pt_truth (pv 2) (by intro _; rfl))) (pss_one (ps_raiseK rfl (takes_of rfl rfl rfl rfl) (pmk_oex T.xi_BlockFailed.o T.xi_BlockFailed.i T.xi_BlockFailed.t (ok_BlockFailed_init T) (hr.mono (by decide)) T.bd_BlockFailed_init .nil passE0 rfl T.g_BlockFailed (pa_cons (pv 1) pa_nil)))) pss_nil)
      (pss_cons (ps_augS (pe_fld (pv 0) rfl) (pv 1) get_list pe_int ip_add set_list)
      (pss_one (ps_for (passes_of rfl) rfl (pi_range1 (by rfl) T.b_range (pa_cons (pe_fld (pv 0) rfl) pa_nil)) (pg_name (i := 3) sc.nd rfl (by first | exact Or.inl rfl | exact Or.inr rfl)) (pss_one (ps_asg pe_non (pg_sub (pe_fld (pv 0) rfl) (pe_op op_uAdd (pe_op op_uMul (pv 1) (pe_fld (pv 0) rfl)) (pv 3)) set_list)))))))))))), ?_⟩
    unfold Cs.wipeR at q
    have hsz := hC.sz
    obtain ⟨hb1, hb2⟩ := hsz.b
    obtain ⟨hp1, hp2⟩ := hsz.p
    walk_at "begin"
    walk_at "go"
    refine x_mBlock hC ?_
    walk_at "go"
    refine x_block hC hn (fun hin => ?_) (fun hin => ?_)
    rotate_left
    · rw [if_pos hin] at q
      exact q H Off.refl hC
    rw [if_neg (by rw [hin]; decide)] at q
    obtain ⟨n, rfl, rfl, h0, h1⟩ := hn.of_inB hin
    dsimp only [Option.getD_some] at q
    walk_at "go"
    refine x_mPower hC (fun hd => ?_) (fun hd => ?_)
    rotate_left
    · rw [if_pos hd] at q
      exact q H Off.refl hC
    rw [if_neg (by rw [hd]; decide)] at q
    walk_at "go"
    refine x_mGoodB hC ?_
    walk_at "go"
    refine ⟨r, F, c, _, rfl, hC, h0, by omega, fun hg => ?_, fun hg d H1 hs hd1 hx => ?_⟩
    rotate_left
    · rw [if_pos hg] at q
      exact q H1 (Off.of hs) (hC.mono hs) d hx
    rw [if_neg (by rw [hg]; decide)] at q
    have ho := hC.obj
    unfold chipF at ho
    have hcl := hC.cl
    have z4 := hsz.clr
    walk_at "go"
    refine x_mGoes hC ?_
    walk_at "go"
    refine ⟨r, F, c, n, decide (c.clr.getD n.toNat 0 = c.m), rfl, hC, h0, by omega, fun H1 hO1 hC1 => ?_⟩
    obtain ⟨⟨n1, n2, n3, n4, n5, n6⟩, ⟨n7, n8, n9, n10, n11⟩, ⟨n12, n13, n14, n15⟩, ⟨n16, n17, n18⟩, ⟨n19, n20⟩, n21⟩ := hC.ne
    have hsz1 := hsz.said n.toNat (c.well n.toNat (decide (c.clr.getD n.toNat 0 = c.m))) ("wipe", n)
    have hlog := hC1.lg
    have o1' := hC1.obj
    have a1 := hC1.la
    have a2 := hC1.st
    have a3 := hC1.tr
    have a4 := hC1.cl
    have a5 := hC1.br
    obtain ⟨lvs, hlg, hla⟩ := hlog
    have hlv : lvs.length < sizeLine := Nat.lt_of_lt_of_le (m := 900000) (by rw [hla.1]; exact hll) (by decide)
    have hla1 : LogAll H1 lvs c.log := hla
    obtain ⟨w, hw⟩ : ∃ w, c.well n.toNat (decide (c.clr.getD n.toNat 0 = c.m)) = w := ⟨_, rfl⟩
    have qT : w = true → ∀ H', Off (F.all r) H H' → ChipAt T.C_Chip H' r F { c.said n.toNat true ("wipe", n) with clr := c.clr.set n.toNat (c.clr.getD n.toNat 0 + 1), stuff := blankN c.stuff (n.toNat * c.p.toNat) c.p.toNat } → Q .non H' := fun h => by
      rw [if_pos (hw.trans h)] at q
      exact q
    have qF : w = false → ∀ H', Off (F.all r) H H' → ChipAt T.C_Chip H' r F (c.said n.toNat false ("wipe", n)) → ∀ d, H' d = some (.xd [("block", .int n)]) → E (.ref T.C_BlockFailed) (some d) H' := fun h => by
      rw [if_neg (by rw [hw, h]; decide)] at q
      exact q
    clear q
    rw [hw] at o1' a1 a2 a3 a4 a5 hsz1 hC1 ⊢
    have o1 := o1'
    unfold chipF at o1
    have hoff1 := hO1
    have hO1 := hoff1
    clear hO1
    walk_at "go"
    rename_i qt H2 hqt hs2 hn2 H3 hO3 hI3
    have f1 : H3 r = some (.ins T.C_Chip F.dx (chipF F (c.tick n.toNat w))) := by walk_at "hp"
    have f2 : H3 F.la = some (.lst c.lasts) := by walk_at "hp"
    have f3 : H3 F.st = some (.lst c.stuff) := by walk_at "hp"
    have f4 : H3 F.cl = some (.lst (c.clr.map V.int)) := by walk_at "hp"
    have f6 : H3 F.tr = some (.lst ((c.tick n.toNat w).tried.map V.int)) := by walk_at "hp"
    have f7 : H3 F.br = some (.lst ((c.tick n.toNat w).broken.map V.bl)) := by walk_at "hp"
    have hoff13 : Off (F.all r) H1 H3 := by unfold CF.all; walk_at "off"
    have hoff3 := hoff1.trans hoff13
    have hq3 : H3 qt = some (.tup [.str "wipe", .int n, .bl w]) := hO3.at hn2 (nin_of (ne_of_none hlg hqt).symm)
    have hla3 : LogAll H3 (lvs ++ [.ref qt]) (c.log ++ [(("wipe" : Str), n, w)]) := ((hla1.mono (hC1.tups hoff13))).snoc ⟨qt, rfl, hq3⟩
    have hC3 : ChipAt T.C_Chip H3 r F (c.said n.toNat w ("wipe", n)) := ⟨f1, f2, f3, f6, f4, f7, ⟨_, hI3, hla3⟩, hC.nd, hsz1⟩
    refine x_join (fun σ' H' => σ' = [some (.ref r), some (.int n), some (.bl w), none] ∧ H' = H3 ∧ w = true) (fun R hR => ?_) ?_
    · walk_at "go"
      refine x_iteB (fun h => ?_) (fun h => ?_)
      · walk_at "go"
        exact hR _ _ ⟨rfl, rfl, h⟩
      · subst h
        walk_at "go"
        refine x_moK ⟨n, rfl, h0, by omega⟩ (fun d H4 hd hs hx => ?_) T.xi_BlockFailed.o T.nx_BlockFailed_block
        exact qF rfl H4 (hoff3.trans (Off.of hs)) (hC3.mono hs) d hx
    intro σ' H' ⟨hσ, hH, hwt⟩
    subst hσ hH hwt
    have f1' := f1
    unfold chipF at f1
    have hC3' := hC3
    clear hoff13
    walk_at "go"
    rename_i HC hOC hIC
    have e1 : HC r = some (.ins T.C_Chip F.dx (chipF F (c.tick n.toNat true))) := by unfold chipF; walk_at "hp"
    have e2 : HC F.la = some (.lst c.lasts) := by walk_at "hp"
    have e3 : HC F.st = some (.lst c.stuff) := by walk_at "hp"
    have e6 : HC F.tr = some (.lst ((c.tick n.toNat true).tried.map V.int)) := by walk_at "hp"
    have e7 : HC F.br = some (.lst ((c.tick n.toNat true).broken.map V.bl)) := by walk_at "hp"
    have e8 : HC F.lg = some (.lst (lvs ++ [.ref qt])) := by walk_at "hp"
    have e4 : HC F.cl = some (.lst ((c.clr.set n.toNat (c.clr.getD n.toNat 0 + 1)).map V.int)) := by
      rw [List.map_set]
      exact hIC
    have hoff3C : Off (F.all r) H' HC := by unfold CF.all; walk_at "off"
    have z5 := hsz.stuff
    rw [show (c.tick n.toNat true).p = c.p from rfl]
    refine x_frR1 (by omega) (fun i σ H4 => ∃ (v3 : Option V), σ = [some (.ref r), some (.int n), some (.bl true), v3] ∧ Off [F.st] HC H4 ∧ H4 F.st = some (.lst (blankN c.stuff (n.toNat * c.p.toNat) i)))
      ⟨_, rfl, Off.refl, e3⟩ ?_ ?_
    · intro i σ H4 hi ⟨v3, hσ, hO4, hI4⟩
      subst hσ
      have g1 : H4 r = some (.ins T.C_Chip F.dx (chipF F (c.tick n.toNat true))) := by walk_at "hp"
      unfold chipF at g1
      rw [show (c.tick n.toNat true).p = c.p from rfl] at g1
      have hnp : n * c.p ≤ (c.b - 1) * c.p := Int.mul_le_mul_of_nonneg_right h1 (by omega)
      have hnp0 : 0 ≤ n * c.p := Int.mul_nonneg h0 (by omega)
      have hbp : c.b * c.p = (c.b - 1) * c.p + c.p := by rw [Int.sub_mul, Int.one_mul]; omega
      have hbl : ((blankN c.stuff (n.toNat * c.p.toNat) i).length : Int) = c.b * c.p := by rw [blankN_len]; exact z5
      have en : (n * c.p + (0 + (i : Int))).toNat = n.toNat * c.p.toNat + i := by
        obtain ⟨a, rfl⟩ := Int.eq_ofNat_of_zero_le h0
        obtain ⟨b, hb⟩ := Int.eq_ofNat_of_zero_le (show 0 ≤ c.p by omega)
        rw [hb]
        simp only [Int.toNat_natCast]
        rw [Int.zero_add, ← Int.natCast_mul, ← Int.natCast_add, Int.toNat_natCast]
      walk_at "go"
      rename_i H5 hO5 hI5
      refine ⟨_, rfl, hO4.trans hO5, ?_⟩
      rw [en] at hI5
      exact hI5
    · intro σ H4 ⟨v3, hσ, hO4, hI4⟩
      subst hσ
      have g1 : H4 r = some (.ins T.C_Chip F.dx (chipF F (c.tick n.toNat true))) := by walk_at "hp"
      have g2 : H4 F.la = some (.lst c.lasts) := by walk_at "hp"
      have g4 : H4 F.cl = some (.lst ((c.clr.set n.toNat (c.clr.getD n.toNat 0 + 1)).map V.int)) := by walk_at "hp"
      have g6 : H4 F.tr = some (.lst ((c.tick n.toNat true).tried.map V.int)) := by walk_at "hp"
      have g7 : H4 F.br = some (.lst ((c.tick n.toNat true).broken.map V.bl)) := by walk_at "hp"
      have g8 : H4 F.lg = some (.lst (lvs ++ [.ref qt])) := by walk_at "hp"
      have hoffC4 : Off (F.all r) HC H4 := by unfold CF.all; exact Off.sub hO4 (by intro b hb; rw [List.mem_singleton] at hb; subst hb; simp)
      have hoff34 := hoff3C.trans hoffC4
      exact qT rfl H4 (hoff3.trans hoff34) ⟨g1, g2, hI4, g6, g4, g7, ⟨_, g8, hla3.mono (hC3'.tups hoff34)⟩, hC.nd, ⟨hsz1.b, hsz1.p, hsz1.m, hsz1.lasts, by show ((blankN _ _ _).length : Int) = _; rw [blankN_len]; exact hsz.stuff, hsz1.tried, by show ((c.clr.set _ _).length : Int) = _; rw [List.length_set]; exact hsz.clr, hsz1.broken, hsz1.lsc⟩⟩
theorem x_mWipe {T : Txt K mg} {H : Hp} {Q : VK} {E : XK} {σ : L2.St} {r : Addr} {F : CF} {c : Cs} {t : TA} (hC : ChipAt T.C_Chip H r F c) (h : t σ H fun vs H2 => spWipe T (.ref r :: vs) H2 Q E) : mtK P w K mg base (L2.CX P w) 4 "wipe" E σ t Q (.ref r) H :=
  x_mtK hC.obj ⟨⟨_, _, _, T.cl_Chip, T.m_Chip_wipe, ok_Chip_wipe T, T.bd_Chip_wipe⟩⟩ rfl h

/-! ### what was done, as data -/
def logD (es : List (Str × Int × Bool)) : PyData := .list (es.map fun e => .tuple [.str e.1, .int e.2.1, .bool e.2.2])
def LogW (es : List (Str × Int × Bool)) : Prop := ∀ e ∈ es, e.1 = "put" ∨ e.1 = "wipe"
theorem LogW.snoc {es : List (Str × Int × Bool)} {e : Str × Int × Bool} (h : LogW es) (he : e.1 = "put" ∨ e.1 = "wipe") : LogW (es ++ [e]) := fun x hx => by
  rcases List.mem_append.mp hx with hx | hx
  · exact h x hx
  · rw [List.mem_singleton.mp hx]; exact he
theorem logD_sh {es : List (Str × Int × Bool)} (h : LogW es) : Sh 9 (logD es) := by
  refine Sh.list (k := 8) fun d hd => ?_
  obtain ⟨e, he, rfl⟩ := List.mem_map.mp hd
  refine Sh.tup (k := 7) fun d hd => ?_
  simp only [List.mem_cons, List.not_mem_nil, or_false] at hd
  rcases hd with rfl | rfl | rfl
  · rcases h e he with e | e <;> rw [e] <;> exact Sh.str (by decide +kernel)
  · exact Sh.int
  · exact Sh.bl
theorem LogAll.dpAll {H : Hp} {vs : List V} {es : List (Str × Int × Bool)} (h : LogAll H vs es) : DpAll K H vs (es.map fun e => .tuple [.str e.1, .int e.2.1, .bool e.2.2]) := by
  refine dpAll_of (by rw [List.length_map]; exact h.1) fun i v d h1 h2 => ?_
  rw [List.getElem?_map] at h2
  cases e : es[i]? with
  | none => rw [e] at h2; simp at h2
  | some t =>
    rw [e] at h2
    simp at h2
    subst h2
    obtain ⟨a, rfl, ha⟩ := h.2 i v t h1 e
    exact .tup (SqT.of ha) (.cons (.str _) (.cons (.int _) (.cons (.bl _) .nil)))
theorem LogAll.dp {H : Hp} {p : Addr} {vs : List V} {es : List (Str × Int × Bool)} (h : LogAll H vs es) (hp : H p = some (.lst vs)) : Dp K H (.ref p) (logD es) := .lst (SqL.of hp) h.dpAll
theorem x_eqLog {H : Hp} {p q : Addr} {vs ws : List V} {es : List (Str × Int × Bool)} {Q : VK} (hp : H p = some (.lst vs)) (h1 : LogAll H vs es) (hq : H q = some (.lst ws)) (h2 : LogAll H ws es) (hw : LogW es) (k : Q (.bl true) H) : uEq K (.ref p) (.ref q) H Q := x_eqS2 (h1.dp hp) (h2.dp hq) (logD_sh hw) k
theorem x_neLog {H : Hp} {p q : Addr} {vs ws : List V} {es : List (Str × Int × Bool)} {Q : VK} (hp : H p = some (.lst vs)) (h1 : LogAll H vs es) (hq : H q = some (.lst ws)) (h2 : LogAll H ws es) (hw : LogW es) (k : Q (.bl false) H) : uNe K (.ref p) (.ref q) H Q := x_neS2 (h1.dp hp) (h2.dp hq) (logD_sh hw) k

/-! ### the power is cut, or put on -/
def Cs.cut (c : Cs) (o : Option Int) : Cs := { c with left := o }
theorem Sizes.cut {c : Cs} (h : Sizes c) (o : Option Int) : Sizes (c.cut o) := ⟨h.b, h.p, h.m, h.lasts, h.stuff, h.tried, h.clr, h.broken, h.lsc⟩
theorem ChipAt.cut {C : Addr} {H H1 : Hp} {r : Addr} {F : CF} {c : Cs} {o : Option Int} (h : ChipAt C H r F c) (hO : Off [r] H H1) (hI : H1 r = some (.ins C F.dx (chipF F (c.cut o)))) : ChipAt C H1 r F (c.cut o) := by
  obtain ⟨⟨n1, n2, n3, n4, n5, n6⟩, _⟩ := h.ne
  obtain ⟨vs, e, l⟩ := h.lg
  exact ⟨hI, hO.at h.la (nin_of n1.symm), hO.at h.st (nin_of n2.symm), hO.at h.tr (nin_of n3.symm), hO.at h.cl (nin_of n4.symm), hO.at h.br (nin_of n5.symm), ⟨vs, hO.at e (nin_of n6.symm), l.mono (hO.tups h.obj)⟩, h.nd, h.sz.cut o⟩
theorem off_all {r : Addr} {F : CF} {H H1 : Hp} (hO : Off [r] H H1) : Off (F.all r) H H1 := hO.sub fun b hb => by rw [List.mem_singleton.mp hb]; exact List.mem_cons_self
def spCut (T : Txt K mg) : Sp := fun vs H Q E => ∃ (r : Addr) (F : CF) (c : Cs) (v : V) (o : Option Int), vs = [.ref r, v] ∧ ChipAt T.C_Chip H r F c ∧ Num v o ∧ (inB o 0 1000000 = false → E (.ref T.C_NoValue) none H) ∧
  (inB o 0 1000000 = true → ∀ H', Off (F.all r) H H' → ChipAt T.C_Chip H' r F (c.cut o) → Q .non H')
theorem ok_Chip_cut_after (T : Txt K mg) : FO P w K mg base 3 T.a_Chip_cut_after T.fd_Chip_cut_after ["self", "deeds"] (spCut T) := by
  have sc := sc_Chip_cut_after
  refine T.F_Chip_cut_after.okX sc (fun vs H Q E h => ?_) (fun cdv A outer s H vs Q E hr h => ?_)
  · obtain ⟨_, _, _, _, _, rfl, _⟩ := h
    rfl
  · obtain ⟨r, F, c, v, o, rfl, hC, hn, q1, q2⟩ := h
    refine ⟨_, (pss_cons (ps_if (pt_not (pt_truth (pe_callS (ok_is_within T) (hr.mono (by decide)) (by rfl) T.g_is_within T.k_is_within T.bd_is_within (passAt (takes_of rfl rfl rfl rfl)) (pa_cons (pv 1) (pa_cons pe_int (pa_cons (pe_glob rfl T.g_MOST T.r_MOST) pa_nil)))) (by intro _; rfl))) (pss_one (ps_raiseK rfl (takes_of rfl rfl rfl rfl) (pmk_ownK T.xc_NoValue T.g_NoValue rfl))) pss_nil)
      (pss_one (ps_fld (pv 0) (pv 1) rfl))), ?_⟩
    have ho := hC.obj
    walk_at "begin"
    walk_at "if"
    refine x_wNum hn ?_
    walk_at "go"
    refine x_iteB (fun h => ?_) (fun h => ?_)
    · have q2' := q2 h
      obtain ⟨n, rfl, rfl, h0, h1⟩ := hn.of_inB h
      walk_at "go"
      refine x_sfO (fs' := chipF F (c.cut (some n))) ho rfl (fun H1 hO hI => ?_) T.cl_Chip T.na_Chip_left (Nat.le_of_ble_eq_true rfl)
      walk_at "go"
      exact q2' H1 (off_all hO) (hC.cut hO hI)
    · walk_at "go"
      exact q1 h
theorem x_mCut {T : Txt K mg} {H : Hp} {Q : VK} {E : XK} {σ : L2.St} {r : Addr} {F : CF} {c : Cs} {t : TA} (hC : ChipAt T.C_Chip H r F c) (h : t σ H fun vs H2 => spCut T (.ref r :: vs) H2 Q E) : mtK P w K mg base (L2.CX P w) 3 "cut_after" E σ t Q (.ref r) H :=
  x_mtK hC.obj ⟨⟨_, _, _, T.cl_Chip, T.m_Chip_cut_after, ok_Chip_cut_after T, T.bd_Chip_cut_after⟩⟩ rfl h

def spOn (T : Txt K mg) : Sp := fun vs H Q _ => ∃ (r : Addr) (F : CF) (c : Cs), vs = [.ref r] ∧ ChipAt T.C_Chip H r F c ∧ ∀ H', Off (F.all r) H H' → ChipAt T.C_Chip H' r F (c.cut none) → Q .non H'
theorem ok_Chip_power_on (T : Txt K mg) : FO P w K mg base 1 T.a_Chip_power_on T.fd_Chip_power_on ["self"] (spOn T) := by
  have sc := sc_Chip_power_on
  refine T.F_Chip_power_on.okX sc (fun vs H Q E h => ?_) (fun cdv A outer s H vs Q E hr h => ?_)
  · obtain ⟨_, _, _, rfl, _⟩ := h
    rfl
  · obtain ⟨r, F, c, rfl, hC, q⟩ := h
    refine ⟨_, (pss_one (ps_fld (pv 0) pe_non rfl)), ?_⟩
    have ho := hC.obj
    walk_at "begin"
    walk_at "go"
    refine x_sfO (fs' := chipF F (c.cut none)) ho rfl (fun H1 hO hI => ?_) T.cl_Chip T.na_Chip_left (Nat.le_of_ble_eq_true rfl)
    walk_at "go"
    exact q H1 (off_all hO) (hC.cut hO hI)
theorem x_mOn {T : Txt K mg} {H : Hp} {Q : VK} {E : XK} {σ : L2.St} {r : Addr} {F : CF} {c : Cs} (hC : ChipAt T.C_Chip H r F c) (q : ∀ H', Off (F.all r) H H' → ChipAt T.C_Chip H' r F (c.cut none) → Q .non H') : mtK P w K mg base (L2.CX P w) 1 "power_on" E σ tNil Q (.ref r) H :=
  x_mtK hC.obj ⟨⟨_, _, _, T.cl_Chip, T.m_Chip_power_on, ok_Chip_power_on T, T.bd_Chip_power_on⟩⟩ rfl ⟨r, F, c, rfl, hC, q⟩

/-! ### what is put on pages: numbers, texts, tuples of such -/
def El (v : V) : Prop := v = .non ∨ (∃ n : Int, v = .int n) ∨ ∃ s : Str, v = .str s ∧ PyData.strOk s = true
def SV (H : Hp) (v : V) : Prop := (∃ n : Int, v = .int n) ∨ (∃ s : Str, v = .str s ∧ PyData.strOk s = true) ∨ ∃ a xs, v = .ref a ∧ H a = some (.tup xs) ∧ ∀ x ∈ xs, El x
def SN (H : Hp) (v : V) : Prop := v = .non ∨ SV H v
theorem SV.mono {H H' : Hp} {v : V} (s : TupS H H') (h : SV H v) : SV H' v := by
  rcases h with h | h | ⟨a, xs, e, h, hx⟩
  · exact .inl h
  · exact .inr (.inl h)
  · exact .inr (.inr ⟨a, xs, e, s _ _ h, hx⟩)
theorem SN.mono {H H' : Hp} {v : V} (s : TupS H H') (h : SN H v) : SN H' v := h.imp id (SV.mono s)
def elD : V → PyData
  | .int n => .int n
  | .str s => .str s
  | _ => .none
theorem els_dp {H : Hp} {xs : List V} (hx : ∀ x ∈ xs, El x) : DpAll K H xs (xs.map elD) := by
  refine dpAll_of (by rw [List.length_map]) fun i v d h1 h2 => ?_
  rw [List.getElem?_map, h1] at h2
  simp at h2
  subst h2
  rcases hx v (List.mem_of_getElem? h1) with rfl | ⟨n, rfl⟩ | ⟨s, rfl, _⟩
  · exact .non
  · exact .int n
  · exact .str _
theorem els_sh {k : Nat} {xs : List V} (hx : ∀ x ∈ xs, El x) : Sh (k + 1) (.tuple (xs.map elD)) := by
  refine Sh.tup fun d h => ?_
  obtain ⟨x, hm, rfl⟩ := List.mem_map.mp h
  rcases hx x hm with rfl | ⟨n, rfl⟩ | ⟨s, rfl, hs⟩
  · exact Sh.non
  · exact Sh.int
  · exact Sh.str hs
theorem SN.dp {H : Hp} {v : V} (h : SN H v) : ∃ d, Dp K H v d ∧ Sh 8 d := by
  rcases h with rfl | ⟨n, rfl⟩ | ⟨s, rfl, hs⟩ | ⟨a, xs, rfl, ha, hx⟩
  · exact ⟨_, .non, Sh.non⟩
  · exact ⟨_, .int n, Sh.int⟩
  · exact ⟨_, .str s, Sh.str hs⟩
  · exact ⟨_, .tup (SqT.of ha) (els_dp hx), els_sh hx⟩
theorem Sh.up {k : Nat} {d : PyData} (h : Sh k d) : Sh (k + 1) d := ⟨h.1, Nat.le_succ_of_le h.2⟩
theorem x_eqSN {H : Hp} {v : V} {Q : VK} (h : SN H v) (k : Q (.bl true) H) : uEq K v v H Q := by
  obtain ⟨d, h1, h2⟩ := h.dp (K := K)
  exact x_eqS2 h1 h1 (Sh.up h2) k
theorem x_neSN {H : Hp} {v : V} {Q : VK} (h : SN H v) (k : Q (.bl false) H) : uNe K v v H Q := by
  obtain ⟨d, h1, h2⟩ := h.dp (K := K)
  exact x_neS2 h1 h1 (Sh.up h2) k
theorem pair_dp {H : Hp} {s : Str} {v : V} (hs : PyData.strOk s = true) (hv : SN H v) : ∃ d, Sh 9 d ∧ ∀ a, H a = some (.tup [.str s, v]) → Dp K H (.ref a) d := by
  obtain ⟨d, h1, h2⟩ := hv.dp (K := K)
  refine ⟨.tuple [.str s, d], Sh.tup (k := 8) fun e h => ?_, fun a h => .tup (SqT.of h) (.cons (.str _) (.cons h1 .nil))⟩
  simp only [List.mem_cons, List.not_mem_nil, or_false] at h
  rcases h with rfl | rfl
  · exact Sh.str hs
  · exact h2
theorem x_eqPair {H : Hp} {a b : Addr} {s : Str} {v : V} {Q : VK} (h1 : H a = some (.tup [.str s, v])) (h2 : H b = some (.tup [.str s, v])) (hs : PyData.strOk s = true) (hv : SN H v) (k : Q (.bl true) H) : uEq K (.ref a) (.ref b) H Q := by
  obtain ⟨d, hd, f⟩ := pair_dp (K := K) hs hv
  exact x_eqS2 (f a h1) (f b h2) hd k

/-! ### what the law asks of the chip -/
def resW : Res → Str
  | .ok => "done"
  | .place => "no place"
  | .dark => "dark"
  | .failed _ => "failed"
  | .clear _ => "written"
  | .value => ""
def resN : Res → Int
  | .failed b => b
  | .clear n => n
  | _ => -1
theorem putR_nv {c : Cs} {o : Option Int} {v : V} : (c.putR o v).1 ≠ .value := by
  unfold Cs.putR
  repeat' split
  all_goals exact fun z => by cases z
theorem wipeR_nv {c : Cs} {o : Option Int} : (c.wipeR o).1 ≠ .value := by
  unfold Cs.wipeR
  repeat' split
  all_goals exact fun z => by cases z
theorem wipeR_nc {c : Cs} {o : Option Int} {n : Int} : (c.wipeR o).1 ≠ .clear n := by
  unfold Cs.wipeR
  repeat' split
  all_goals exact fun z => by cases z
def spMix : Sp := fun vs H Q _ => ∃ c k : Int, vs = [.int c, .int k] ∧ ∀ m : Int, 0 ≤ m → m < 1000003 → Q (.int m) H
theorem ok_mix (T : Txt K mg) : FO P w K mg base 1 T.a__law_mix T.fd__law_mix ["_law_cell", "_law_k"] spMix := by
  have sc := sc__law_mix
  refine T.F__law_mix.okX sc (fun vs H Q E h => ?_) (fun cdv A outer s H vs Q E hr h => ?_)
  · obtain ⟨_, _, rfl, _⟩ := h
    rfl
  · obtain ⟨c, k, rfl, q⟩ := h
    refine ⟨_, (pss_cons (ps_set (i := 2) sc.nd rfl (by first | exact Or.inl rfl | exact Or.inr rfl) (pe_op op_mod (pe_op op_uMul (pe_op op_uAdd (pe_op op_uAdd (pe_op op_mod (pv 0) pe_int) (pe_op op_uMul pe_int (pv 1))) pe_int) pe_int) pe_int))
      (pss_one (ps_ret (pe_op op_mod (pe_op op_uMul (pv 2) (pv 2)) pe_int)))), ?_⟩
    walk_at "begin"
    walk_at "go"
    exact q _ (Int.emod_nonneg _ (by decide)) (Int.emod_lt_of_pos _ (by decide))
def spPut8 (T : Txt K mg) : Sp := fun vs H Q _ => ∃ (r : Addr) (F : CF) (c : Cs) (n : Int) (v : V), vs = [.ref r, .int n, v] ∧ ChipAt T.C_Chip H r F c ∧ c.log.length < 900000 ∧
  ∀ t H', Off (F.all r) H H' → ChipAt T.C_Chip H' r F (c.putR (some n) v).2 → H' t = some (.tup [.str (resW (c.putR (some n) v).1), .int (resN (c.putR (some n) v).1)]) → Q (.ref t) H'
theorem ok_put (T : Txt K mg) : FO P w K mg base 5 T.a__law_put T.fd__law_put ["_law_chip_here", "_law_page", "_law_stuff"] (spPut8 T) := by
  have sc := sc__law_put
  refine T.F__law_put.okX sc (fun vs H Q E h => ?_) (fun cdv A outer s H vs Q E hr h => ?_)
  · obtain ⟨_, _, _, _, _, rfl, _⟩ := h
    rfl
  · obtain ⟨r, F, c, n, v, rfl, hC, hll, q⟩ := h
    refine ⟨_, (pss_cons (ps_set (i := 3) sc.nd rfl (by first | exact Or.inl rfl | exact Or.inr rfl) pe_str)
      (pss_cons (ps_set (i := 4) sc.nd rfl (by first | exact Or.inl rfl | exact Or.inr rfl) (pe_un un_neg pe_int))
      (pss_cons (ps_mix rfl rfl sc.nd (takes_of rfl rfl rfl rfl) (fun W1 pn1 xe1 hW1 hP1 => (pss_one (ps_expr (K_methD (P := P) (w := w) (K := K) (mg := mg) (base := base) (k := 4) (pv 0) (hr.mono (by decide)) (passAt hW1) (pa_cons (pv 1) (pa_cons (pv 2) pa_nil)))))) (Cl.one ⟨rfl, rfl, Or.inl T.g_NoPlace⟩ (fun a1 oe1 cls1 d1 pn1 hz1 hv1 => (pss_one (ps_set (i := 3) sc.nd rfl (by first | exact Or.inl rfl | exact Or.inr rfl) pe_str))) (Cl.one ⟨rfl, rfl, Or.inl T.g_PowerGone⟩ (fun a1 oe1 cls1 d1 pn1 hz1 hv1 => (pss_one (ps_set (i := 3) sc.nd rfl (by first | exact Or.inl rfl | exact Or.inr rfl) pe_str))) (Cl.asn (i := 5) rfl rfl ⟨rfl, rfl, Or.inl T.g_BlockFailed⟩ (fun a1 oe1 cls1 d1 pn1 hz1 hv1 => (pss_cons (ps_set (i := 3) sc.nd rfl (by first | exact Or.inl rfl | exact Or.inr rfl) pe_str)
      (pss_one (ps_set (i := 4) sc.nd rfl (by first | exact Or.inl rfl | exact Or.inr rfl) (pe_xf T.xi_BlockFailed.f T.nx_BlockFailed_block hz1 hv1 (pv 5)))))) (Cl.asn (i := 5) rfl rfl ⟨rfl, rfl, Or.inl T.g_NotClear⟩ (fun a1 oe1 cls1 d1 pn1 hz1 hv1 => (pss_cons (ps_set (i := 3) sc.nd rfl (by first | exact Or.inl rfl | exact Or.inr rfl) pe_str)
      (pss_one (ps_set (i := 4) sc.nd rfl (by first | exact Or.inl rfl | exact Or.inr rfl) (pe_xf T.xi_NotClear.f T.nx_NotClear_page hz1 hv1 (pv 5)))))) Cl.nil)))))
      (pss_one (ps_ret (pe_tup (pa_cons (pv 3) (pa_cons (pv 4) pa_nil)))))))), ?_⟩
    walk_at "begin"
    walk_at "go"
    refine x_mPut hC ?_
    walk_at "go"
    refine ⟨r, F, c, _, v, some n, rfl, hC, .int n, hll, fun H1 hO1 hC1 => ?_⟩
    have hv := putR_nv (c := c) (o := some n) (v := v)
    generalize (c.putR (some n) v).1 = res at q hv ⊢
    have q' : ∀ t H', Same H1 H' → H' t = some (.tup [.str (resW res), .int (resN res)]) → Q (.ref t) H' := fun t H' hs ht => q t H' (hO1.trans (Off.of hs)) (hC1.mono hs) ht
    clear hO1
    cases res with
    | ok =>
      refine x_finOk ?_
      dsimp only
      walk_at "go"
      rename_i t H2 ht hs hn
      exact q' t H2 hs hn
    | place =>
      refine x_finPlace (x_mixT T.em_NoPlace_NoPlace fun a na => ?_)
      dsimp only [inAs]
      walk_at "go"
      rename_i t H2 ht hs hn
      exact q' t H2 hs hn
    | dark =>
      refine x_finDark (x_mixF T.em_PowerGone_NoPlace (x_mixT T.em_PowerGone_PowerGone fun a na => ?_))
      dsimp only [inAs]
      walk_at "go"
      rename_i t H2 ht hs hn
      exact q' t H2 hs hn
    | failed b =>
      intro d hd
      refine x_mixF T.em_BlockFailed_NoPlace (x_mixF T.em_BlockFailed_PowerGone (x_mixT T.em_BlockFailed_BlockFailed fun a na => ?_))
      dsimp only [inAs]
      walk_at "go"
      refine x_xfK hd rfl ?_
      walk_at "go"
      rename_i t H2 ht hs hn
      exact q' t H2 hs hn
    | clear b =>
      intro d hd
      refine x_mixF T.em_NotClear_NoPlace (x_mixF T.em_NotClear_PowerGone (x_mixF T.em_NotClear_BlockFailed (x_mixT T.em_NotClear_NotClear fun a na => ?_)))
      dsimp only [inAs]
      walk_at "go"
      refine x_xfK hd rfl ?_
      walk_at "go"
      rename_i t H2 ht hs hn
      exact q' t H2 hs hn
    | value => exact absurd rfl hv
def spWipe8 (T : Txt K mg) : Sp := fun vs H Q _ => ∃ (r : Addr) (F : CF) (c : Cs) (n : Int), vs = [.ref r, .int n] ∧ ChipAt T.C_Chip H r F c ∧ c.log.length < 900000 ∧
  ∀ t H', Off (F.all r) H H' → ChipAt T.C_Chip H' r F (c.wipeR (some n)).2 → H' t = some (.tup [.str (resW (c.wipeR (some n)).1), .int (resN (c.wipeR (some n)).1)]) → Q (.ref t) H'
theorem ok_wipe (T : Txt K mg) : FO P w K mg base 5 T.a__law_wipe T.fd__law_wipe ["_law_chip_here", "_law_block"] (spWipe8 T) := by
  have sc := sc__law_wipe
  refine T.F__law_wipe.okX sc (fun vs H Q E h => ?_) (fun cdv A outer s H vs Q E hr h => ?_)
  · obtain ⟨_, _, _, _, rfl, _⟩ := h
    rfl
  · obtain ⟨r, F, c, n, rfl, hC, hll, q⟩ := h
    refine ⟨_, (pss_cons (ps_set (i := 2) sc.nd rfl (by first | exact Or.inl rfl | exact Or.inr rfl) pe_str)
      (pss_cons (ps_set (i := 3) sc.nd rfl (by first | exact Or.inl rfl | exact Or.inr rfl) (pe_un un_neg pe_int))
      (pss_cons (ps_mix rfl rfl sc.nd (takes_of rfl rfl rfl rfl) (fun W2 pn2 xe2 hW2 hP2 => (pss_one (ps_expr (K_methD (P := P) (w := w) (K := K) (mg := mg) (base := base) (k := 4) (pv 0) (hr.mono (by decide)) (passAt hW2) (pa_cons (pv 1) pa_nil))))) (Cl.one ⟨rfl, rfl, Or.inl T.g_NoPlace⟩ (fun a2 oe2 cls2 d2 pn2 hz2 hv2 => (pss_one (ps_set (i := 2) sc.nd rfl (by first | exact Or.inl rfl | exact Or.inr rfl) pe_str))) (Cl.one ⟨rfl, rfl, Or.inl T.g_PowerGone⟩ (fun a2 oe2 cls2 d2 pn2 hz2 hv2 => (pss_one (ps_set (i := 2) sc.nd rfl (by first | exact Or.inl rfl | exact Or.inr rfl) pe_str))) (Cl.asn (i := 4) rfl rfl ⟨rfl, rfl, Or.inl T.g_BlockFailed⟩ (fun a2 oe2 cls2 d2 pn2 hz2 hv2 => (pss_cons (ps_set (i := 2) sc.nd rfl (by first | exact Or.inl rfl | exact Or.inr rfl) pe_str)
      (pss_one (ps_set (i := 3) sc.nd rfl (by first | exact Or.inl rfl | exact Or.inr rfl) (pe_xf T.xi_BlockFailed.f T.nx_BlockFailed_block hz2 hv2 (pv 4)))))) Cl.nil))))
      (pss_one (ps_ret (pe_tup (pa_cons (pv 2) (pa_cons (pv 3) pa_nil)))))))), ?_⟩
    walk_at "begin"
    walk_at "go"
    refine x_mWipe hC ?_
    walk_at "go"
    refine ⟨r, F, c, _, some n, rfl, hC, .int n, hll, fun H1 hO1 hC1 => ?_⟩
    have hv := wipeR_nv (c := c) (o := some n)
    have hc := fun m => wipeR_nc (c := c) (o := some n) (n := m)
    generalize (c.wipeR (some n)).1 = res at q hv hc ⊢
    have q' : ∀ t H', Same H1 H' → H' t = some (.tup [.str (resW res), .int (resN res)]) → Q (.ref t) H' := fun t H' hs ht => q t H' (hO1.trans (Off.of hs)) (hC1.mono hs) ht
    clear hO1
    cases res with
    | ok =>
      refine x_finOk ?_
      dsimp only
      walk_at "go"
      rename_i t H2 ht hs hn
      exact q' t H2 hs hn
    | place =>
      refine x_finPlace (x_mixT T.em_NoPlace_NoPlace fun a na => ?_)
      dsimp only [inAs]
      walk_at "go"
      rename_i t H2 ht hs hn
      exact q' t H2 hs hn
    | dark =>
      refine x_finDark (x_mixF T.em_PowerGone_NoPlace (x_mixT T.em_PowerGone_PowerGone fun a na => ?_))
      dsimp only [inAs]
      walk_at "go"
      rename_i t H2 ht hs hn
      exact q' t H2 hs hn
    | failed b =>
      intro d hd
      refine x_mixF T.em_BlockFailed_NoPlace (x_mixF T.em_BlockFailed_PowerGone (x_mixT T.em_BlockFailed_BlockFailed fun a na => ?_))
      dsimp only [inAs]
      walk_at "go"
      refine x_xfK hd rfl ?_
      walk_at "go"
      rename_i t H2 ht hs hn
      exact q' t H2 hs hn
    | clear b => exact absurd rfl (hc b)
    | value => exact absurd rfl hv
/-- what a reading tells -/
def readW (c : Cs) (n : Int) : Str := if inB (some n) 0 (c.b * c.p - 1) = true then (if c.dark = true then "dark" else "read") else "no place"
def readV (c : Cs) (n : Int) : V := if inB (some n) 0 (c.b * c.p - 1) = true then (if c.dark = true then .non else c.stuff.getD n.toNat .non) else .non
def spRead8 (T : Txt K mg) : Sp := fun vs H Q _ => ∃ (r : Addr) (F : CF) (c : Cs) (n : Int), vs = [.ref r, .int n] ∧ ChipAt T.C_Chip H r F c ∧
  ∀ t H', Same H H' → H' t = some (.tup [.str (readW c n), readV c n]) → Q (.ref t) H'
theorem ok_read (T : Txt K mg) : FO P w K mg base 5 T.a__law_read T.fd__law_read ["_law_chip_here", "_law_page"] (spRead8 T) := by
  have sc := sc__law_read
  refine T.F__law_read.okX sc (fun vs H Q E h => ?_) (fun cdv A outer s H vs Q E hr h => ?_)
  · obtain ⟨_, _, _, _, rfl, _⟩ := h
    rfl
  · obtain ⟨r, F, c, n, rfl, hC, q⟩ := h
    refine ⟨_, (pss_cons (ps_set (i := 2) sc.nd rfl (by first | exact Or.inl rfl | exact Or.inr rfl) pe_str)
      (pss_cons (ps_set (i := 3) sc.nd rfl (by first | exact Or.inl rfl | exact Or.inr rfl) pe_non)
      (pss_cons (ps_tryM rfl rfl (takes_of rfl rfl rfl rfl) (fun W3 pn3 xe3 hW3 hP3 => (pss_one (ps_set (i := 3) sc.nd rfl (by first | exact Or.inl rfl | exact Or.inr rfl) (K_methD (P := P) (w := w) (K := K) (mg := mg) (base := base) (k := 4) (pv 0) (hr.mono (by decide)) (passAt hW3) (pa_cons (pv 1) pa_nil))))) (HdsOk.cons ⟨rfl, rfl, Or.inl T.g_NoPlace⟩ (fun a3 oe3 cls3 d3 pn3 hz3 hv3 => (pss_one (ps_set (i := 2) sc.nd rfl (by first | exact Or.inl rfl | exact Or.inr rfl) pe_str))) (HdsOk.cons ⟨rfl, rfl, Or.inl T.g_PowerGone⟩ (fun a3 oe3 cls3 d3 pn3 hz3 hv3 => (pss_one (ps_set (i := 2) sc.nd rfl (by first | exact Or.inl rfl | exact Or.inr rfl) pe_str))) HdsOk.nil)))
      (pss_one (ps_ret (pe_tup (pa_cons (pv 2) (pa_cons (pv 3) pa_nil)))))))), ?_⟩
    unfold readW readV at q
    walk_at "begin"
    walk_at "go"
    refine x_mRead hC ?_
    walk_at "go"
    refine ⟨r, F, c, _, some n, rfl, hC, .int n, fun hin => ?_, fun hin hd => ?_, fun hin hd => ?_⟩
    · rw [if_neg (by rw [hin]; decide), if_neg (by rw [hin]; decide)] at q
      refine x_manyT T.em_NoPlace_NoPlace fun a na => ?_
      walk_at "go"
      rename_i t H2 ht hs hn
      exact q t H2 hs hn
    · rw [if_pos hin, if_pos hin, if_pos hd, if_pos hd] at q
      refine x_manyF T.em_PowerGone_NoPlace (x_manyT T.em_PowerGone_PowerGone fun a na => ?_)
      walk_at "go"
      rename_i t H2 ht hs hn
      exact q t H2 hs hn
    · rw [if_pos hin, if_pos hin, if_neg (by rw [hd]; decide), if_neg (by rw [hd]; decide)] at q
      walk_at "go"
      rename_i t H2 ht hs hn
      exact q t H2 hs hn
/-! ### the law's own list of the chip -/
structure MF where
  st : Addr
  lg : Addr
  tr : Addr
  cl : Addr
  br : Addr
  la : Addr
def MF.all (M : MF) (d : Addr) : List Addr := [d, M.st, M.lg, M.tr, M.cl, M.br, M.la]
def mineF (M : MF) (c : Cs) : List (L2.Key × V) := [(.inr "pages", .int c.p), (.inr "stuff", .ref M.st), (.inr "log", .ref M.lg), (.inr "left", lv c.left), (.inr "most", .int c.m), (.inr "tried", .ref M.tr), (.inr "cleared", .ref M.cl), (.inr "broken", .ref M.br), (.inr "lasts", .ref M.la)]
def lastI (v : V) : Int := match v with
  | .int n => n
  | _ => -1
structure MineAt (H : Hp) (d : Addr) (M : MF) (c : Cs) : Prop where
  obj : H d = some (.dK (mineF M c))
  st : H M.st = some (.lst c.stuff)
  lg : ∃ vs, H M.lg = some (.lst vs) ∧ LogAll H vs c.log
  tr : H M.tr = some (.lst (c.tried.map V.int))
  cl : H M.cl = some (.lst (c.clr.map V.int))
  br : H M.br = some (.lst (c.broken.map V.bl))
  la : H M.la = some (.lst ((c.lasts.map lastI).map V.int))
  nd : (MF.all M d).Nodup
theorem MineAt.ne {H : Hp} {d : Addr} {M : MF} {c : Cs} (h : MineAt H d M c) : (d ≠ M.st ∧ d ≠ M.lg ∧ d ≠ M.tr ∧ d ≠ M.cl ∧ d ≠ M.br ∧ d ≠ M.la) ∧ (M.st ≠ M.lg ∧ M.st ≠ M.tr ∧ M.st ≠ M.cl ∧ M.st ≠ M.br ∧ M.st ≠ M.la) ∧ (M.lg ≠ M.tr ∧ M.lg ≠ M.cl ∧ M.lg ≠ M.br ∧ M.lg ≠ M.la) ∧ (M.tr ≠ M.cl ∧ M.tr ≠ M.br ∧ M.tr ≠ M.la) ∧ (M.cl ≠ M.br ∧ M.cl ≠ M.la) ∧ M.br ≠ M.la := by
  have d := h.nd
  unfold MF.all at d
  simp only [List.nodup_cons, List.mem_cons, List.not_mem_nil, or_false, not_or, not_false_eq_true, List.nodup_nil, and_true] at d
  exact ⟨d.1, d.2.1, d.2.2.1, d.2.2.2.1, d.2.2.2.2.1, d.2.2.2.2.2⟩
theorem MineAt.off {H H' : Hp} {d : Addr} {M : MF} {c : Cs} {S : List Addr} (h : MineAt H d M c) (s : Off S H H') (n : ∀ a, a ∈ M.all d → a ∉ S) (ht : TupS H H') : MineAt H' d M c := by
  obtain ⟨vs, e, l⟩ := h.lg
  unfold MF.all at n
  exact ⟨s.at h.obj (n _ (by simp)), s.at h.st (n _ (by simp)), ⟨vs, s.at e (n _ (by simp)), l.mono ht⟩, s.at h.tr (n _ (by simp)), s.at h.cl (n _ (by simp)), s.at h.br (n _ (by simp)), s.at h.la (n _ (by simp)), h.nd⟩
theorem MineAt.there {H : Hp} {d : Addr} {M : MF} {c : Cs} (h : MineAt H d M c) : ∀ a ∈ M.all d, ∃ o, H a = some o ∧ ∀ xs, o ≠ .tup xs := fun a ha => by
  obtain ⟨vs, e7, _⟩ := h.lg
  unfold MF.all at ha
  simp only [List.mem_cons, List.not_mem_nil, or_false] at ha
  rcases ha with rfl | rfl | rfl | rfl | rfl | rfl | rfl
  · exact ⟨_, h.obj, fun _ z => by cases z⟩
  · exact ⟨_, h.st, fun _ z => by cases z⟩
  · exact ⟨_, e7, fun _ z => by cases z⟩
  · exact ⟨_, h.tr, fun _ z => by cases z⟩
  · exact ⟨_, h.cl, fun _ z => by cases z⟩
  · exact ⟨_, h.br, fun _ z => by cases z⟩
  · exact ⟨_, h.la, fun _ z => by cases z⟩
def Cs.wl (c : Cs) (k : Int) (w : Str) : Bool := c.well k.toNat (decide (w = "wipe") && decide (c.clr.getD k.toNat 0 = c.m))
def spDeed : Sp := fun vs H Q _ => ∃ (d : Addr) (M : MF) (c : Cs) (w : Str) (n k : Int), vs = [.ref d, .str w, .int n, .int k] ∧ MineAt H d M c ∧ Sizes c ∧ 0 ≤ k ∧ k < c.b ∧ (∀ x ∈ c.tried, 0 ≤ x) ∧ c.log.length < 1000 ∧
  ∀ H', Off (M.all d) H H' → MineAt H' d M (c.said k.toNat (c.wl k w) (w, n)) → Q (.bl (c.wl k w)) H'
theorem ok_deed (T : Txt K mg) : FO P w K mg base 1 T.a__law_deed T.fd__law_deed ["_law_mine_here", "_law_word", "_law_at", "_law_block"] spDeed := by
  have sc := sc__law_deed
  refine T.F__law_deed.okX sc (fun vs H Q E h => ?_) (fun cdv A outer s H vs Q E hr h => ?_)
  · obtain ⟨_, _, _, _, _, _, rfl, _⟩ := h
    rfl
  · obtain ⟨d, M, c, wd, n, k, rfl, hM, hsz, h0, h1, htr, hll, q⟩ := h
    refine ⟨_, (pss_cons (ps_if (pt_cmpR op_uIsNot (pe_dget (hu_of hr) (pv 0) pe_str (fun _ _ => rfl)) pe_non (nomark _)) (pss_one (ps_dput (hu_of hr) (pv 0) pe_str (pe_op op_sub (pe_dget (hu_of hr) (pv 0) pe_str (fun _ _ => rfl)) pe_int) rfl)) pss_nil)
      (pss_cons (ps_set (i := 4) sc.nd rfl (by first | exact Or.inl rfl | exact Or.inr rfl) (pe_cmpR (op_uEq hr.units) (pe_ix ix_seq (pe_dget (hu_of hr) (pv 0) pe_str (fun _ _ => rfl)) (pv 3) (fun _ _ => rfl)) (pe_ix ix_seq (pe_dget (hu_of hr) (pv 0) pe_str (fun _ _ => rfl)) (pv 3) (fun _ _ => rfl)) (nomark _)))
      (pss_cons (ps_if (PW.pt (pw_and (pt_cmpR (op_uEq hr.units) (pv 1) pe_str (nomark _)) (pw_and1 (pt_cmpR (op_uEq hr.units) (pe_ix ix_seq (pe_dget (hu_of hr) (pv 0) pe_str (fun _ _ => rfl)) (pv 3) (fun _ _ => rfl)) (pe_dget (hu_of hr) (pv 0) pe_str (fun _ _ => rfl)) (nomark _))))) (pss_one (ps_set (i := 4) sc.nd rfl (by first | exact Or.inl rfl | exact Or.inr rfl) pe_bl)) pss_nil)
      (pss_cons (ps_asg (pe_op op_uAdd (pe_ix ix_seq (pe_dget (hu_of hr) (pv 0) pe_str (fun _ _ => rfl)) (pv 3) (fun _ _ => rfl)) pe_int) (pg_sub (pe_dget (hu_of hr) (pv 0) pe_str (fun _ _ => rfl)) (pv 3) set_list))
      (pss_cons (ps_expr (pe_bm PySem.F.plainAttrs_list PySem.F.slot_list_append PySem.F.type_list_append mt_append (pe_dget (hu_of hr) (pv 0) pe_str (fun _ _ => rfl)) (pa_cons (pe_tup (pa_cons (pv 1) (pa_cons (pv 2) (pa_cons (pe_notT (pv 4)) pa_nil)))) pa_nil)))
      (pss_cons (ps_asg (pv 4) (pg_sub (pe_dget (hu_of hr) (pv 0) pe_str (fun _ _ => rfl)) (pv 3) set_list))
      (pss_one (ps_ret (pe_notT (pv 4)))))))))), ?_⟩
    obtain ⟨⟨n1, n2, n3, n4, n5, n6⟩, ⟨n7, n8, n9, n10, n11⟩, ⟨n12, n13, n14, n15⟩, ⟨n16, n17, n18⟩, ⟨n19, n20⟩, n21⟩ := hM.ne
    have ho := hM.obj
    have ho' := ho
    unfold mineF at ho
    have a1 := hM.tr
    have a2 := hM.la
    have a3 := hM.cl
    have a4 := hM.br
    have a5 := hM.st
    obtain ⟨lvs, a6, hla⟩ := hM.lg
    have z1 := hsz.tried
    have z2 := hsz.lasts
    have z3 := hsz.clr
    have z4 := hsz.broken
    have z5 : ((c.lasts.map lastI).length : Int) = c.b := by rw [List.length_map]; exact z2
    walk_at "begin"
    refine x_join (fun σ' H1 => σ' = [some (.ref d), some (.str wd), some (.int n), some (.int k), none] ∧ Off [d] H H1 ∧ H1 d = some (.dK (mineF M (c.cut (c.left.map (· - 1)))))) (fun R hR => ?_) ?_
    · walk_at "go"
      cases hl : c.left with
      | none =>
        refine iteT ?_
        walk_at "go"
        refine hR _ _ ⟨rfl, Off.refl, ?_⟩
        rw [ho']
        unfold mineF Cs.cut
        rw [hl]
        rfl
      | some j =>
        rw [hl] at ho
        unfold lv at ho
        refine iteF ?_
        walk_at "go"
        refine x_dpS (kvs' := mineF M (c.cut (some (j - 1)))) (by exact ho) (by rfl) (fun H1 hO hI => ?_) (Nat.le_of_ble_eq_true rfl)
        exact hR _ _ ⟨rfl, hO, by rw [hl]; exact hI⟩
    intro σ' H1 ⟨hσ, hO1, ho1⟩
    subst hσ
    have b1 : H1 M.tr = some (.lst (c.tried.map V.int)) := hO1.at a1 (nin_of n3.symm)
    have b2 : H1 M.la = some (.lst ((c.lasts.map lastI).map V.int)) := hO1.at a2 (nin_of n6.symm)
    have b3 : H1 M.cl = some (.lst (c.clr.map V.int)) := hO1.at a3 (nin_of n4.symm)
    have b4 : H1 M.br = some (.lst (c.broken.map V.bl)) := hO1.at a4 (nin_of n5.symm)
    have b5 : H1 M.st = some (.lst c.stuff) := hO1.at a5 (nin_of n1.symm)
    have b6 : H1 M.lg = some (.lst lvs) := hO1.at a6 (nin_of n2.symm)
    have t01 : TupS H H1 := tups_of (fun b hb => by rw [List.mem_singleton.mp hb]; exact ⟨_, ho', fun _ z => by cases z⟩) hO1
    have hoff1 : Off (M.all d) H H1 := hO1.sub fun b hb => by rw [List.mem_singleton.mp hb]; simp [MF.all]
    have hlv : lvs.length < sizeLine := Nat.lt_of_le_of_lt (show lvs.length ≤ 1000 by rw [hla.1]; omega) (by decide)
    have ho1' := ho1
    unfold mineF at ho1
    replace ho1 : H1 d = some (.dK [(.inr "pages", .int c.p), (.inr "stuff", .ref M.st), (.inr "log", .ref M.lg), (.inr "left", lv (c.left.map (· - 1))), (.inr "most", .int c.m), (.inr "tried", .ref M.tr), (.inr "cleared", .ref M.cl), (.inr "broken", .ref M.br), (.inr "lasts", .ref M.la)]) := ho1
    clear hO1
    have hlt : k.toNat < c.lasts.length := by omega
    have htl : k.toNat < c.tried.length := by omega
    have ht0 : 0 ≤ c.tried.getD k.toNat 0 := by
      rw [List.getD_eq_getElem?_getD, List.getElem?_eq_getElem htl]
      exact htr _ (List.getElem_mem htl)
    have el : (List.map lastI c.lasts).getD k.toNat 0 = lastI (c.lasts.getD k.toNat .non) := by simp [hlt]
    have hls : c.lasts.getD k.toNat .non = .non ∨ ∃ j : Int, c.lasts.getD k.toNat .non = .int j := by
      rw [List.getD_eq_getElem?_getD, List.getElem?_eq_getElem hlt]
      exact hsz.lsc _ (List.getElem_mem hlt)
    have ee : decide (c.tried.getD k.toNat 0 = lastI (c.lasts.getD k.toNat .non)) = decide (V.int (c.tried.getD k.toNat 0) = c.lasts.getD k.toNat .non) := by
      rw [decide_eq_decide]
      generalize c.tried.getD k.toNat 0 = tr at ht0
      generalize c.lasts.getD k.toNat V.non = la at hls
      rcases hls with rfl | ⟨j, rfl⟩
      · exact ⟨fun z => by simp only [lastI] at z; omega, fun z => by cases z⟩
      · exact ⟨fun z => by rw [z]; rfl, fun z => by cases z; rfl⟩
    walk_at "go"
    rw [el, ee]
    refine x_join (fun σ' H2 => σ' = [some (.ref d), some (.str wd), some (.int n), some (.int k), some (.bl (!c.wl k wd))] ∧ H2 = H1) (fun R hR => ?_) ?_
    · have hwl : c.wl k wd = (!(decide (wd = "wipe") && decide (c.clr.getD k.toNat 0 = c.m)) && !decide (V.int (c.tried.getD k.toNat 0) = c.lasts.getD k.toNat .non)) := rfl
      walk_at "go"
      refine x_iteD (fun h1 => ?_) (fun h1 => ?_)
      · rw [decide_eq_true h1, Bool.true_and] at hwl
        walk_at "go"
        refine x_iteD (fun h2 => ?_) (fun h2 => ?_)
        · rw [decide_eq_true h2] at hwl
          walk_at "go"
          refine hR _ _ ⟨?_, rfl⟩
          rw [hwl]
          rfl
        · rw [decide_eq_false h2, Bool.not_false, Bool.true_and] at hwl
          walk_at "go"
          refine hR _ _ ⟨?_, rfl⟩
          rw [hwl, Bool.not_not]
      · rw [decide_eq_false h1, Bool.false_and, Bool.not_false, Bool.true_and] at hwl
        refine iteF ?_
        walk_at "go"
        refine hR _ _ ⟨?_, rfl⟩
        rw [hwl, Bool.not_not]
    intro σ' H2 ⟨hσ, hH⟩
    subst hσ hH
    generalize c.wl k wd = wl at q ⊢
    walk_at "go"
    rename_i H3 hO3 hI3 qt H4 hqt hs4 hn4 H5 hO5 hI5 H6 hO6 hI6
    rw [Bool.not_not] at hn4 ⊢
    have e0 : H6 d = some (.dK (mineF M (c.cut (c.left.map (· - 1))))) := by walk_at "hp"
    have e1 : H6 M.st = some (.lst c.stuff) := by walk_at "hp"
    have e2 : H6 M.cl = some (.lst (c.clr.map V.int)) := by walk_at "hp"
    have e4 : H6 M.la = some (.lst ((c.lasts.map lastI).map V.int)) := by walk_at "hp"
    have e5 : H6 M.tr = some (.lst ((c.tried.set k.toNat (c.tried.getD k.toNat 0 + 1)).map V.int)) := by
      rw [List.map_set]
      walk_at "hp"
    have e6 : H6 M.lg = some (.lst (lvs ++ [.ref qt])) := by walk_at "hp"
    have e3 : H6 M.br = some (.lst ((c.broken.set k.toNat (!wl)).map V.bl)) := by rw [List.map_set]; exact hI6
    have g6 : H4 M.lg = some (.lst lvs) := by walk_at "hp"
    have g4 : H5 M.br = some (.lst (c.broken.map V.bl)) := by walk_at "hp"
    have hq5 : H5 qt = some (.tup [.str wd, .int n, .bl wl]) := hO5.at hn4 (nin_of (fun z => by rw [z, g6] at hn4; cases hn4))
    have t16 : TupS H2 H6 := (hO3.tupsL b1).trans ((TupS.of hs4).trans ((hO5.tupsL g6).trans (hO6.tupsL g4)))
    have hq6 : H6 qt = some (.tup [.str wd, .int n, .bl wl]) := hO6.tupsL g4 _ _ hq5
    have hla6 : LogAll H6 (lvs ++ [.ref qt]) (c.log ++ [(wd, n, wl)]) := (hla.mono (t01.trans t16)).snoc ⟨qt, rfl, hq6⟩
    have one : ∀ {x : Addr} {Ha Hb : Hp}, x ∈ M.all d → Off [x] Ha Hb → Off (M.all d) Ha Hb := fun hx h => h.sub fun b hb => by rw [List.mem_singleton.mp hb]; exact hx
    have hoff6 : Off (M.all d) H H6 := hoff1.trans ((one (by simp [MF.all]) hO3).trans ((Off.of hs4).trans ((one (by simp [MF.all]) hO5).trans (one (by simp [MF.all]) hO6))))
    exact q H6 hoff6 ⟨e0, e1, ⟨_, e6, hla6⟩, e5, e2, e3, e4, hM.nd⟩
theorem x_deed {H : Hp} {Q : VK} {E : XK} {d : Addr} {M : MF} {c : Cs} {wd : Str} {n k : Int} (hM : MineAt H d M c) (hsz : Sizes c) (htr : ∀ x ∈ c.tried, 0 ≤ x) (hl : c.log.length < 1000)
  (q : ∀ H', Off (M.all d) H H' → MineAt H' d M (c.said k.toNat (c.wl k wd) (wd, n)) → Q (.bl (c.wl k wd)) H') (h : 0 ≤ k ∧ k < c.b) : spDeed [.ref d, .str wd, .int n, .int k] H Q E := ⟨d, M, c, wd, n, k, rfl, hM, hsz, h.1, h.2, htr, hl, q⟩
def spDuePut : Sp := fun vs H Q _ => ∃ (d : Addr) (M : MF) (c : Cs) (n : Int) (v : V), vs = [.ref d, .int n, v] ∧ MineAt H d M c ∧ Sizes c ∧ (∀ x ∈ c.tried, 0 ≤ x) ∧ c.log.length < 1000 ∧
  ∀ t H', Off (M.all d) H H' → MineAt H' d M (c.putR (some n) v).2 → H' t = some (.tup [.str (resW (c.putR (some n) v).1), .int (resN (c.putR (some n) v).1)]) → Q (.ref t) H'
theorem ok_due_put (T : Txt K mg) : FO P w K mg base 2 T.a__law_due_put T.fd__law_due_put ["_law_mine_here", "_law_page", "_law_stuff"] spDuePut := by
  have sc := sc__law_due_put
  refine T.F__law_due_put.okX sc (fun vs H Q E h => ?_) (fun cdv A outer s H vs Q E hr h => ?_)
  · obtain ⟨_, _, _, _, _, rfl, _⟩ := h
    rfl
  · obtain ⟨d, M, c, n, v, rfl, hM, hsz, htr, hll, q⟩ := h
    refine ⟨_, (pss_cons (ps_if (pt_not (pt_chain op_le op_uLt pe_int (pv 1) (pe_callB (cr_ulen) (by rfl) T.b_len bt_len (pa_cons (pe_dget (hu_of hr) (pv 0) pe_str (fun _ _ => rfl)) pa_nil)))) (pss_one (ps_ret (pe_tup (pa_cons pe_str (pa_cons (pe_un un_neg pe_int) pa_nil))))) pss_nil)
      (pss_cons (ps_set (i := 3) sc.nd rfl (by first | exact Or.inl rfl | exact Or.inr rfl) (pe_op op_fdivW (pv 1) (pe_dget (hu_of hr) (pv 0) pe_str (fun _ _ => rfl))))
      (pss_cons (ps_if (pt_cmpR (op_uEq hr.units) (pe_dget (hu_of hr) (pv 0) pe_str (fun _ _ => rfl)) pe_int (nomark _)) (pss_one (ps_ret (pe_tup (pa_cons pe_str (pa_cons (pe_un un_neg pe_int) pa_nil))))) pss_nil)
      (pss_cons (ps_if (pt_truth (pe_ix ix_seq (pe_dget (hu_of hr) (pv 0) pe_str (fun _ _ => rfl)) (pv 3) (fun _ _ => rfl)) (by intro _; rfl)) (pss_one (ps_ret (pe_tup (pa_cons pe_str (pa_cons (pv 3) pa_nil))))) pss_nil)
      (pss_cons (ps_if (pt_cmpR op_uIsNot (pe_ix ix_seq (pe_dget (hu_of hr) (pv 0) pe_str (fun _ _ => rfl)) (pv 1) (fun _ _ => rfl)) pe_non (nomark _)) (pss_one (ps_ret (pe_tup (pa_cons pe_str (pa_cons (pv 1) pa_nil))))) pss_nil)
      (pss_cons (ps_if (pt_not (pt_truth (pe_callS (ok_deed T) (hr.mono (by decide)) (by rfl) T.g__law_deed T.k__law_deed T.bd__law_deed (passAt (takes_of rfl rfl rfl rfl)) (pa_cons (pv 0) (pa_cons pe_str (pa_cons (pv 1) (pa_cons (pv 3) pa_nil))))) (by intro _; rfl))) (pss_one (ps_ret (pe_tup (pa_cons pe_str (pa_cons (pv 3) pa_nil))))) pss_nil)
      (pss_cons (ps_asg (pv 2) (pg_sub (pe_dget (hu_of hr) (pv 0) pe_str (fun _ _ => rfl)) (pv 1) set_list))
      (pss_one (ps_ret (pe_tup (pa_cons pe_str (pa_cons (pe_un un_neg pe_int) pa_nil)))))))))))), ?_⟩
    obtain ⟨⟨n1, n2, n3, n4, n5, n6⟩, _⟩ := hM.ne
    have ho := hM.obj
    unfold mineF at ho
    have a4 := hM.br
    have a5 := hM.st
    have z1 := hsz.stuff
    have z2 := hsz.broken
    have z3 := hsz.p
    have z4 := hsz.b
    have done : ∀ {r : Res} {c' : Cs} {H1 : Hp}, c.putR (some n) v = (r, c') → Off (M.all d) H H1 → MineAt H1 d M c' → ∀ t H', Same H1 H' → H' t = some (.tup [.str (resW r), .int (resN r)]) → Q (.ref t) H' := fun {r c' H1} e hO hM1 t H' hs ht => by
      rw [e] at q
      exact q t H' (hO.trans (Off.of hs)) (hM1.off (Off.of (S := []) hs) (fun _ _ z => by cases z) (TupS.of hs)) ht
    walk_at "begin"
    walk_at "if"
    refine x_iteD (fun h0 => ?_) (fun h0 => ?_)
    rotate_left
    · walk_at "go"
      rename_i t H1 ht hs hn
      exact done (r := .place) (by unfold Cs.putR; rw [if_pos (show inB (some n) 0 (c.b * c.p - 1) = false from decide_eq_false (by omega))]) Off.refl hM t H1 hs hn
    walk_at "go"
    rw [z1]
    refine x_iteD (fun h1 => ?_) (fun h1 => ?_)
    rotate_left
    · walk_at "go"
      rename_i t H1 ht hs hn
      exact done (r := .place) (by unfold Cs.putR; rw [if_pos (show inB (some n) 0 (c.b * c.p - 1) = false from decide_eq_false (by omega))]) Off.refl hM t H1 hs hn
    have hin : inB (some n) 0 (c.b * c.p - 1) = true := decide_eq_true ⟨h0, by omega⟩
    have hk0 : 0 ≤ n / c.p := Int.ediv_nonneg h0 (by omega)
    have hk1 : n / c.p < c.b := Int.ediv_lt_of_lt_mul (by omega) (by omega)
    have hnl : n < (c.stuff.length : Int) := by omega
    walk_at "go"
    walk_at "if"
    refine x_eqSc lv_scal ?_
    rw [lv_eq0]
    walk_at "go"
    refine x_iteD (fun hd => ?_) (fun hd => ?_)
    · have hdk : c.dark = true := decide_eq_true hd
      walk_at "go"
      rename_i t H1 ht hs hn
      exact done (r := .dark) (by unfold Cs.putR; rw [if_neg (by rw [hin]; decide), if_pos hdk]) Off.refl hM t H1 hs hn
    have hdk : ¬ c.dark = true := fun z => hd (of_decide_eq_true z)
    walk_at "go"
    walk_at "if"
    refine x_iteB (fun hb => ?_) (fun hb => ?_)
    · walk_at "go"
      rename_i t H1 ht hs hn
      exact done (r := .failed (n / c.p)) (by unfold Cs.putR; rw [if_neg (by rw [hin]; decide), if_neg hdk]; simp only [Option.getD_some]; rw [if_pos hb]) Off.refl hM t H1 hs hn
    have hbf : ¬ c.broken.getD (n / c.p).toNat false = true := by rw [hb]; decide
    walk_at "go"
    walk_at "if"
    refine x_iteD (fun hst => ?_) (fun hst => ?_)
    rotate_left
    · walk_at "go"
      rename_i t H1 ht hs hn
      exact done (r := .clear n) (by unfold Cs.putR; rw [if_neg (by rw [hin]; decide), if_neg hdk]; simp only [Option.getD_some]; rw [if_neg hbf, if_pos hst]) Off.refl hM t H1 hs hn
    walk_at "go"
    walk_at "if"
    have ewl : c.wl (n / c.p) "put" = c.well (n / c.p).toNat false := rfl
    have eput : c.putR (some n) v = if c.well (n / c.p).toNat false = true then (.ok, { c.said (n / c.p).toNat true ("put", n) with stuff := c.stuff.set n.toNat v }) else (.failed (n / c.p), c.said (n / c.p).toNat false ("put", n)) := by
      unfold Cs.putR
      rw [if_neg (by rw [hin]; decide), if_neg hdk]
      simp only [Option.getD_some]
      rw [if_neg hbf, if_neg (fun z => z hst)]
    refine x_deed hM hsz htr hll (fun H1 hO1 hM1 => ?_) ⟨hk0, hk1⟩
    rw [ewl] at hM1 ⊢
    cases hwl : c.well (n / c.p).toNat false with
    | false =>
      rw [hwl] at hM1 eput
      rw [if_neg (by decide)] at eput
      walk_at "go"
      rename_i t H2 ht hs hn
      exact done eput hO1 hM1 t H2 hs hn
    | true =>
      rw [hwl] at hM1 eput
      rw [if_pos rfl] at eput
      have ho1 := hM1.obj
      have b5 : H1 M.st = some (.lst c.stuff) := hM1.st
      unfold mineF at ho1
      replace ho1 : H1 d = some (.dK [(.inr "pages", .int c.p), (.inr "stuff", .ref M.st), (.inr "log", .ref M.lg), (.inr "left", lv (c.left.map (· - 1))), (.inr "most", .int c.m), (.inr "tried", .ref M.tr), (.inr "cleared", .ref M.cl), (.inr "broken", .ref M.br), (.inr "lasts", .ref M.la)]) := ho1
      walk_at "go"
      rename_i H2 hO2 hI2 t H3 ht hs hn
      obtain ⟨_, ⟨n7, n8, n9, n10, n11⟩, _⟩ := hM.ne
      have hM2 : MineAt H2 d M { c.said (n / c.p).toNat true ("put", n) with stuff := c.stuff.set n.toNat v } := by
        obtain ⟨vs, e, l⟩ := hM1.lg
        exact ⟨hO2.at hM1.obj (nin_of n1), hI2, ⟨vs, hO2.at e (nin_of n7.symm), l.mono (hO2.tupsL b5)⟩, hO2.at hM1.tr (nin_of n8.symm), hO2.at hM1.cl (nin_of n9.symm), hO2.at hM1.br (nin_of n10.symm), hO2.at hM1.la (nin_of n11.symm), hM.nd⟩
      exact done eput (hO1.trans (hO2.sub fun b hb => by rw [List.mem_singleton.mp hb]; simp [MF.all])) hM2 t H3 hs hn
def spDueWipe : Sp := fun vs H Q _ => ∃ (d : Addr) (M : MF) (c : Cs) (n : Int), vs = [.ref d, .int n] ∧ MineAt H d M c ∧ Sizes c ∧ (∀ x ∈ c.tried, 0 ≤ x) ∧ c.log.length < 1000 ∧
  ∀ t H', Off (M.all d) H H' → MineAt H' d M (c.wipeR (some n)).2 → H' t = some (.tup [.str (resW (c.wipeR (some n)).1), .int (resN (c.wipeR (some n)).1)]) → Q (.ref t) H'
theorem ok_due_wipe (T : Txt K mg) : FO P w K mg base 2 T.a__law_due_wipe T.fd__law_due_wipe ["_law_mine_here", "_law_block"] spDueWipe := by
  have sc := sc__law_due_wipe
  refine T.F__law_due_wipe.okX sc (fun vs H Q E h => ?_) (fun cdv A outer s H vs Q E hr h => ?_)
  · obtain ⟨_, _, _, _, rfl, _⟩ := h
    rfl
  · obtain ⟨d, M, c, n, rfl, hM, hsz, htr, hll, q⟩ := h
    refine ⟨_, (pss_cons (ps_if (pt_not (pt_chain op_le op_uLt pe_int (pv 1) (pe_callB (cr_ulen) (by rfl) T.b_len bt_len (pa_cons (pe_dget (hu_of hr) (pv 0) pe_str (fun _ _ => rfl)) pa_nil)))) (pss_one (ps_ret (pe_tup (pa_cons pe_str (pa_cons (pe_un un_neg pe_int) pa_nil))))) pss_nil)
      (pss_cons (ps_if (pt_cmpR (op_uEq hr.units) (pe_dget (hu_of hr) (pv 0) pe_str (fun _ _ => rfl)) pe_int (nomark _)) (pss_one (ps_ret (pe_tup (pa_cons pe_str (pa_cons (pe_un un_neg pe_int) pa_nil))))) pss_nil)
      (pss_cons (ps_if (PW.pt (pw_or (pt_truth (pe_ix ix_seq (pe_dget (hu_of hr) (pv 0) pe_str (fun _ _ => rfl)) (pv 1) (fun _ _ => rfl)) (by intro _; rfl)) (pw_or1 (pt_not (pt_truth (pe_callS (ok_deed T) (hr.mono (by decide)) (by rfl) T.g__law_deed T.k__law_deed T.bd__law_deed (passAt (takes_of rfl rfl rfl rfl)) (pa_cons (pv 0) (pa_cons pe_str (pa_cons (pv 1) (pa_cons (pv 1) pa_nil))))) (by intro _; rfl)))))) (pss_one (ps_ret (pe_tup (pa_cons pe_str (pa_cons (pv 1) pa_nil))))) pss_nil)
      (pss_cons (ps_asg (pe_op op_uAdd (pe_ix ix_seq (pe_dget (hu_of hr) (pv 0) pe_str (fun _ _ => rfl)) (pv 1) (fun _ _ => rfl)) pe_int) (pg_sub (pe_dget (hu_of hr) (pv 0) pe_str (fun _ _ => rfl)) (pv 1) set_list))
      (pss_cons (ps_for (passes_of rfl) rfl (pi_range1 (by rfl) T.b_range (pa_cons (pe_dget (hu_of hr) (pv 0) pe_str (fun _ _ => rfl)) pa_nil)) (pg_name (i := 2) sc.nd rfl (by first | exact Or.inl rfl | exact Or.inr rfl)) (pss_one (ps_asg pe_non (pg_sub (pe_dget (hu_of hr) (pv 0) pe_str (fun _ _ => rfl)) (pe_op op_uAdd (pe_op op_uMul (pv 1) (pe_dget (hu_of hr) (pv 0) pe_str (fun _ _ => rfl))) (pv 2)) set_list))))
      (pss_one (ps_ret (pe_tup (pa_cons pe_str (pa_cons (pe_un un_neg pe_int) pa_nil)))))))))), ?_⟩
    obtain ⟨⟨n1, n2, n3, n4, n5, n6⟩, ⟨n7, n8, n9, n10, n11⟩, ⟨n12, n13, n14, n15⟩, ⟨n16, n17, n18⟩, ⟨n19, n20⟩, n21⟩ := hM.ne
    have ho := hM.obj
    unfold mineF at ho
    have a4 := hM.br
    have z1 := hsz.stuff
    have z2 := hsz.broken
    have z3 := hsz.p
    have z4 := hsz.b
    have z5 := hsz.clr
    have done : ∀ {r : Res} {c' : Cs} {H1 : Hp}, c.wipeR (some n) = (r, c') → Off (M.all d) H H1 → MineAt H1 d M c' → ∀ t H', Same H1 H' → H' t = some (.tup [.str (resW r), .int (resN r)]) → Q (.ref t) H' := fun {r c' H1} e hO hM1 t H' hs ht => by
      rw [e] at q
      exact q t H' (hO.trans (Off.of hs)) (hM1.off (Off.of (S := []) hs) (fun _ _ z => by cases z) (TupS.of hs)) ht
    walk_at "begin"
    walk_at "if"
    refine x_iteD (fun h0 => ?_) (fun h0 => ?_)
    rotate_left
    · walk_at "go"
      rename_i t H1 ht hs hn
      exact done (r := .place) (by unfold Cs.wipeR; rw [if_pos (show inB (some n) 0 (c.b - 1) = false from decide_eq_false (by omega))]) Off.refl hM t H1 hs hn
    walk_at "go"
    rw [z2]
    refine x_iteD (fun h1 => ?_) (fun h1 => ?_)
    rotate_left
    · walk_at "go"
      rename_i t H1 ht hs hn
      exact done (r := .place) (by unfold Cs.wipeR; rw [if_pos (show inB (some n) 0 (c.b - 1) = false from decide_eq_false (by omega))]) Off.refl hM t H1 hs hn
    have hin : inB (some n) 0 (c.b - 1) = true := decide_eq_true ⟨h0, by omega⟩
    walk_at "go"
    walk_at "if"
    refine x_eqSc lv_scal ?_
    rw [lv_eq0]
    walk_at "go"
    refine x_iteD (fun hd => ?_) (fun hd => ?_)
    · have hdk : c.dark = true := decide_eq_true hd
      walk_at "go"
      rename_i t H1 ht hs hn
      exact done (r := .dark) (by unfold Cs.wipeR; rw [if_neg (by rw [hin]; decide), if_pos hdk]) Off.refl hM t H1 hs hn
    have hdk : ¬ c.dark = true := fun z => hd (of_decide_eq_true z)
    walk_at "go"
    walk_at "if"
    refine x_iteB (fun hb => ?_) (fun hb => ?_)
    · refine iteT ?_
      walk_at "go"
      rename_i t H1 ht hs hn
      exact done (r := .failed n) (by unfold Cs.wipeR; rw [if_neg (by rw [hin]; decide), if_neg hdk]; simp only [Option.getD_some]; rw [if_pos hb]) Off.refl hM t H1 hs hn
    have hbf : ¬ c.broken.getD n.toNat false = true := by rw [hb]; decide
    walk_at "go"
    have ewl : c.wl n "wipe" = c.well n.toNat (decide (c.clr.getD n.toNat 0 = c.m)) := rfl
    have ewipe : c.wipeR (some n) = if c.well n.toNat (decide (c.clr.getD n.toNat 0 = c.m)) = true then (.ok, { c.said n.toNat true ("wipe", n) with clr := c.clr.set n.toNat (c.clr.getD n.toNat 0 + 1), stuff := blankN c.stuff (n.toNat * c.p.toNat) c.p.toNat }) else (.failed n, c.said n.toNat false ("wipe", n)) := by
      unfold Cs.wipeR
      rw [if_neg (by rw [hin]; decide), if_neg hdk]
      simp only [Option.getD_some]
      rw [if_neg hbf]
    refine x_deed hM hsz htr hll (fun H1 hO1 hM1 => ?_) ⟨h0, h1⟩
    rw [ewl] at hM1 ⊢
    generalize c.well n.toNat (decide (c.clr.getD n.toNat 0 = c.m)) = wl at hM1 ewipe ⊢
    cases wl with
    | false =>
      rw [if_neg (by decide)] at ewipe
      walk_at "go"
      rename_i t H2 ht hs hn
      exact done (r := .failed n) ewipe hO1 hM1 t H2 hs hn
    | true =>
      rw [if_pos rfl] at ewipe
      have ho1 := hM1.obj
      have b5 : H1 M.st = some (.lst c.stuff) := hM1.st
      have b3 : H1 M.cl = some (.lst (c.clr.map V.int)) := hM1.cl
      unfold mineF at ho1
      replace ho1 : H1 d = some (.dK [(.inr "pages", .int c.p), (.inr "stuff", .ref M.st), (.inr "log", .ref M.lg), (.inr "left", lv (c.left.map (· - 1))), (.inr "most", .int c.m), (.inr "tried", .ref M.tr), (.inr "cleared", .ref M.cl), (.inr "broken", .ref M.br), (.inr "lasts", .ref M.la)]) := ho1
      have hncl : n < (c.clr.length : Int) := by omega
      walk_at "go"
      rename_i HC hOC hIC
      have hMC : MineAt HC d M { c.said n.toNat true ("wipe", n) with clr := c.clr.set n.toNat (c.clr.getD n.toNat 0 + 1) } := by
        obtain ⟨vs, e, l⟩ := hM1.lg
        exact ⟨hOC.at hM1.obj (nin_of n4), hOC.at hM1.st (nin_of n9), ⟨vs, hOC.at e (nin_of n13), l.mono (hOC.tupsL b3)⟩, hOC.at hM1.tr (nin_of n16), by rw [hIC, List.map_set], hOC.at hM1.br (nin_of n19.symm), hOC.at hM1.la (nin_of n20.symm), hM.nd⟩
      have hoffC : Off (M.all d) H HC := hO1.trans (hOC.sub fun b hb => by rw [List.mem_singleton.mp hb]; simp [MF.all])
      have c0 : HC d = some (.dK [(.inr "pages", .int c.p), (.inr "stuff", .ref M.st), (.inr "log", .ref M.lg), (.inr "left", lv (c.left.map (· - 1))), (.inr "most", .int c.m), (.inr "tried", .ref M.tr), (.inr "cleared", .ref M.cl), (.inr "broken", .ref M.br), (.inr "lasts", .ref M.la)]) := hOC.at ho1 (nin_of n4)
      have c5 : HC M.st = some (.lst c.stuff) := hOC.at b5 (nin_of n9)
      clear hOC
      refine x_seq ?_
      walk_at "go"
      refine x_frR1 (by omega) (fun i σ H4 => ∃ v2, σ = [some (.ref d), some (.int n), v2] ∧ Off [M.st] HC H4 ∧ H4 M.st = some (.lst (blankN c.stuff (n.toNat * c.p.toNat) i)))
        ⟨_, rfl, Off.refl, c5⟩ ?_ ?_
      · intro i σ H4 hi ⟨v2, hσ, hO4, hI4⟩
        subst hσ
        have g0 := hO4.at c0 (nin_of n1)
        have hnp : n * c.p ≤ (c.b - 1) * c.p := Int.mul_le_mul_of_nonneg_right (by omega) (by omega)
        have hnp0 : 0 ≤ n * c.p := Int.mul_nonneg h0 (by omega)
        have hbp : c.b * c.p = (c.b - 1) * c.p + c.p := by rw [Int.sub_mul, Int.one_mul]; omega
        have hbl : ((blankN c.stuff (n.toNat * c.p.toNat) i).length : Int) = c.b * c.p := by rw [blankN_len]; exact z1
        have en : (n * c.p + (0 + (i : Int))).toNat = n.toNat * c.p.toNat + i := by
          obtain ⟨a, ha⟩ := Int.eq_ofNat_of_zero_le h0
          obtain ⟨b, hb⟩ := Int.eq_ofNat_of_zero_le (show 0 ≤ c.p by omega)
          rw [hb, ha]
          simp only [Int.toNat_natCast]
          rw [Int.zero_add, ← Int.natCast_mul, ← Int.natCast_add, Int.toNat_natCast]
        walk_at "go"
        rename_i H5 hO5 hI5
        refine ⟨_, rfl, hO4.trans hO5, ?_⟩
        rw [en] at hI5
        exact hI5
      · intro σ H4 ⟨v2, hσ, hO4, hI4⟩
        subst hσ
        have hM4 : MineAt H4 d M { c.said n.toNat true ("wipe", n) with clr := c.clr.set n.toNat (c.clr.getD n.toNat 0 + 1), stuff := blankN c.stuff (n.toNat * c.p.toNat) c.p.toNat } := by
          obtain ⟨vs, e, l⟩ := hMC.lg
          exact ⟨hO4.at hMC.obj (nin_of n1), hI4, ⟨vs, hO4.at e (nin_of n7.symm), l.mono (hO4.tupsL c5)⟩, hO4.at hMC.tr (nin_of n8.symm), hO4.at hMC.cl (nin_of n9.symm), hO4.at hMC.br (nin_of n10.symm), hO4.at hMC.la (nin_of n11.symm), hM.nd⟩
        have hoff4 : Off (M.all d) H H4 := hoffC.trans (hO4.sub fun b hb => by rw [List.mem_singleton.mp hb]; simp [MF.all])
        clear hO4
        walk_at "go"
        rename_i t H5 ht hs hn
        exact done (r := .ok) ewipe hoff4 hM4 t H5 hs hn
def spDueRead : Sp := fun vs H Q _ => ∃ (d : Addr) (M : MF) (c : Cs) (n : Int), vs = [.ref d, .int n] ∧ MineAt H d M c ∧ Sizes c ∧
  ∀ t H', Same H H' → H' t = some (.tup [.str (readW c n), readV c n]) → Q (.ref t) H'
theorem ok_due_read (T : Txt K mg) : FO P w K mg base 1 T.a__law_due_read T.fd__law_due_read ["_law_mine_here", "_law_page"] spDueRead := by
  have sc := sc__law_due_read
  refine T.F__law_due_read.okX sc (fun vs H Q E h => ?_) (fun cdv A outer s H vs Q E hr h => ?_)
  · obtain ⟨_, _, _, _, rfl, _⟩ := h
    rfl
  · obtain ⟨d, M, c, n, rfl, hM, hsz, q⟩ := h
    refine ⟨_, (pss_cons (ps_if (pt_not (pt_chain op_le op_uLt pe_int (pv 1) (pe_callB (cr_ulen) (by rfl) T.b_len bt_len (pa_cons (pe_dget (hu_of hr) (pv 0) pe_str (fun _ _ => rfl)) pa_nil)))) (pss_one (ps_ret (pe_tup (pa_cons pe_str (pa_cons pe_non pa_nil))))) pss_nil)
      (pss_cons (ps_if (pt_cmpR (op_uEq hr.units) (pe_dget (hu_of hr) (pv 0) pe_str (fun _ _ => rfl)) pe_int (nomark _)) (pss_one (ps_ret (pe_tup (pa_cons pe_str (pa_cons pe_non pa_nil))))) pss_nil)
      (pss_one (ps_ret (pe_tup (pa_cons pe_str (pa_cons (pe_ix ix_seq (pe_dget (hu_of hr) (pv 0) pe_str (fun _ _ => rfl)) (pv 1) (fun _ _ => rfl)) pa_nil))))))), ?_⟩
    have ho := hM.obj
    unfold mineF at ho
    have a5 := hM.st
    have z1 := hsz.stuff
    unfold readW readV at q
    walk_at "begin"
    walk_at "if"
    refine x_iteD (fun h0 => ?_) (fun h0 => ?_)
    rotate_left
    · walk_at "go"
      rename_i t H1 ht hs hn
      have hin : ¬ inB (some n) 0 (c.b * c.p - 1) = true := by rw [show inB (some n) 0 (c.b * c.p - 1) = false from decide_eq_false (by omega)]; decide
      rw [if_neg hin, if_neg hin] at q
      exact q t H1 hs hn
    walk_at "go"
    rw [z1]
    refine x_iteD (fun h1 => ?_) (fun h1 => ?_)
    rotate_left
    · walk_at "go"
      rename_i t H1 ht hs hn
      have hin : ¬ inB (some n) 0 (c.b * c.p - 1) = true := by rw [show inB (some n) 0 (c.b * c.p - 1) = false from decide_eq_false (by omega)]; decide
      rw [if_neg hin, if_neg hin] at q
      exact q t H1 hs hn
    have hin : inB (some n) 0 (c.b * c.p - 1) = true := decide_eq_true ⟨h0, by omega⟩
    rw [if_pos hin, if_pos hin] at q
    have hnl : n < (c.stuff.length : Int) := by omega
    walk_at "go"
    walk_at "if"
    refine x_eqSc lv_scal ?_
    rw [lv_eq0]
    walk_at "go"
    refine x_iteD (fun hd => ?_) (fun hd => ?_)
    · have hdk : c.dark = true := decide_eq_true hd
      rw [if_pos hdk, if_pos hdk] at q
      walk_at "go"
      rename_i t H1 ht hs hn
      exact q t H1 hs hn
    have hdk : ¬ c.dark = true := fun z => hd (of_decide_eq_true z)
    rw [if_neg hdk, if_neg hdk] at q
    walk_at "go"
    rename_i t H1 ht hs hn
    exact q t H1 hs hn
theorem mem_getD {α : Type} {l : List α} {n : Nat} {d : α} (h : n < l.length) : l.getD n d ∈ l := by
  rw [List.getD_eq_getElem?_getD, List.getElem?_eq_getElem h]
  exact List.getElem_mem h
theorem blank_mem {l : List V} {s : Nat} {x : V} : ∀ {i : Nat}, x ∈ blankN l s i → x ∈ l ∨ x = .non
  | 0, h => .inl h
  | i + 1, h => by
    rcases List.mem_or_eq_of_mem_set h with h | h
    · exact blank_mem h
    · exact .inr h
structure Gh (H : Hp) (c : Cs) (B P : Int) (k : Nat) : Prop where
  b : c.b = B
  p : c.p = P
  tr : ∀ x ∈ c.tried, 0 ≤ x
  log : c.log.length ≤ k
  st : ∀ x ∈ c.stuff, SN H x
  lw : LogW c.log
theorem Gh.mono {H H' : Hp} {c : Cs} {B P : Int} {k : Nat} (g : Gh H c B P k) (s : TupS H H') : Gh H' c B P k := ⟨g.b, g.p, g.tr, g.log, fun x hx => (g.st x hx).mono s, g.lw⟩
theorem Gh.succ {H : Hp} {c : Cs} {B P : Int} {k : Nat} (g : Gh H c B P k) : Gh H c B P (k + 1) := ⟨g.b, g.p, g.tr, Nat.le_succ_of_le g.log, g.st, g.lw⟩
theorem Gh.cut {H : Hp} {c : Cs} {B P : Int} {k : Nat} (g : Gh H c B P k) (o : Option Int) : Gh H (c.cut o) B P k := ⟨g.b, g.p, g.tr, g.log, g.st, g.lw⟩
theorem Gh.said {H : Hp} {c : Cs} {B P : Int} {k : Nat} (g : Gh H c B P k) (n : Nat) (w : Bool) (e : Str × Int) (he : e.1 = "put" ∨ e.1 = "wipe") : Gh H (c.said n w e) B P (k + 1) := ⟨g.b, g.p, fun x hx => by
    rcases List.mem_or_eq_of_mem_set hx with hx | hx
    · exact g.tr x hx
    · rw [hx]
      have : 0 ≤ c.tried.getD n 0 := by
        rcases Nat.lt_or_ge n c.tried.length with hl | hl
        · exact g.tr _ (mem_getD hl)
        · rw [List.getD_eq_getElem?_getD, List.getElem?_eq_none hl]; exact Int.le_refl _
      omega, by show (c.log ++ [_]).length ≤ k + 1; rw [List.length_append]; exact Nat.add_le_add g.log (Nat.le_refl 1), g.st, g.lw.snoc he⟩
theorem Gh.put {H : Hp} {c : Cs} {B P : Int} {k : Nat} (g : Gh H c B P k) {n : Int} {v : V} (hv : SN H v) : Gh H (c.putR (some n) v).2 B P (k + 1) := by
  unfold Cs.putR
  split
  · exact g.succ
  split
  · exact g.succ
  split
  · exact g.succ
  split
  · exact g.succ
  split
  · have s := g.said ((some n).getD 0 / c.p).toNat true ("put", (some n).getD 0) (.inl rfl)
    exact ⟨s.b, s.p, s.tr, s.log, fun x hx => by
      rcases List.mem_or_eq_of_mem_set hx with hx | hx
      · exact g.st x hx
      · rw [hx]; exact hv, s.lw⟩
  · exact g.said _ _ _ (.inl rfl)
theorem Gh.wipe {H : Hp} {c : Cs} {B P : Int} {k : Nat} (g : Gh H c B P k) {n : Int} : Gh H (c.wipeR (some n)).2 B P (k + 1) := by
  unfold Cs.wipeR
  split
  · exact g.succ
  split
  · exact g.succ
  split
  · exact g.succ
  split
  · have s := g.said ((some n).getD 0).toNat true ("wipe", (some n).getD 0) (.inr rfl)
    exact ⟨s.b, s.p, s.tr, s.log, fun x hx => by
      rcases blank_mem hx with hx | hx
      · exact g.st x hx
      · exact .inl hx, s.lw⟩
  · exact g.said _ _ _ (.inr rfl)
theorem resW_ok {r : Res} : PyData.strOk (resW r) = true := by
  cases r
  · exact (show PyData.strOk "done" = true by decide +kernel)
  · exact (show PyData.strOk "no place" = true by decide +kernel)
  · exact (show PyData.strOk "dark" = true by decide +kernel)
  · exact (show PyData.strOk "failed" = true by decide +kernel)
  · exact (show PyData.strOk "written" = true by decide +kernel)
  · exact (show PyData.strOk "" = true by decide +kernel)
theorem readW_ok {c : Cs} {n : Int} : PyData.strOk (readW c n) = true := by
  unfold readW
  split
  · split <;> decide +kernel
  · decide +kernel
theorem Gh.readV {H : Hp} {c : Cs} {B P : Int} {k : Nat} (g : Gh H c B P k) (sz : Sizes c) {n : Int} : SN H (readV c n) := by
  unfold My.readV
  split
  · rename_i hin
    split
    · exact .inl rfl
    · have h := of_decide_eq_true hin
      exact g.st _ (mem_getD (by have := sz.stuff; omega))
  · exact .inl rfl
theorem x_put8 {T : Txt K mg} {H : Hp} {Q : VK} {E : XK} {r : Addr} {F : CF} {c : Cs} {n : Int} {v : V} (hC : ChipAt T.C_Chip H r F c) (hl : c.log.length < 900000)
  (q : ∀ t H', Off (F.all r) H H' → ChipAt T.C_Chip H' r F (c.putR (some n) v).2 → H' t = some (.tup [.str (resW (c.putR (some n) v).1), .int (resN (c.putR (some n) v).1)]) → Q (.ref t) H') : spPut8 T [.ref r, .int n, v] H Q E := ⟨r, F, c, n, v, rfl, hC, hl, q⟩
theorem x_wipe8 {T : Txt K mg} {H : Hp} {Q : VK} {E : XK} {r : Addr} {F : CF} {c : Cs} {n : Int} (hC : ChipAt T.C_Chip H r F c) (hl : c.log.length < 900000)
  (q : ∀ t H', Off (F.all r) H H' → ChipAt T.C_Chip H' r F (c.wipeR (some n)).2 → H' t = some (.tup [.str (resW (c.wipeR (some n)).1), .int (resN (c.wipeR (some n)).1)]) → Q (.ref t) H') : spWipe8 T [.ref r, .int n] H Q E := ⟨r, F, c, n, rfl, hC, hl, q⟩
theorem x_read8 {T : Txt K mg} {H : Hp} {Q : VK} {E : XK} {r : Addr} {F : CF} {c : Cs} {n : Int} (hC : ChipAt T.C_Chip H r F c)
  (q : ∀ t H', Same H H' → H' t = some (.tup [.str (readW c n), readV c n]) → Q (.ref t) H') : spRead8 T [.ref r, .int n] H Q E := ⟨r, F, c, n, rfl, hC, q⟩
theorem x_duePut {H : Hp} {Q : VK} {E : XK} {d : Addr} {M : MF} {c : Cs} {n : Int} {v : V} (hM : MineAt H d M c) (hsz : Sizes c) (htr : ∀ x ∈ c.tried, 0 ≤ x) (hl : c.log.length < 1000)
  (q : ∀ t H', Off (M.all d) H H' → MineAt H' d M (c.putR (some n) v).2 → H' t = some (.tup [.str (resW (c.putR (some n) v).1), .int (resN (c.putR (some n) v).1)]) → Q (.ref t) H') : spDuePut [.ref d, .int n, v] H Q E := ⟨d, M, c, n, v, rfl, hM, hsz, htr, hl, q⟩
theorem x_dueWipe {H : Hp} {Q : VK} {E : XK} {d : Addr} {M : MF} {c : Cs} {n : Int} (hM : MineAt H d M c) (hsz : Sizes c) (htr : ∀ x ∈ c.tried, 0 ≤ x) (hl : c.log.length < 1000)
  (q : ∀ t H', Off (M.all d) H H' → MineAt H' d M (c.wipeR (some n)).2 → H' t = some (.tup [.str (resW (c.wipeR (some n)).1), .int (resN (c.wipeR (some n)).1)]) → Q (.ref t) H') : spDueWipe [.ref d, .int n] H Q E := ⟨d, M, c, n, rfl, hM, hsz, htr, hl, q⟩
theorem x_dueRead {H : Hp} {Q : VK} {E : XK} {d : Addr} {M : MF} {c : Cs} {n : Int} (hM : MineAt H d M c) (hsz : Sizes c)
  (q : ∀ t H', Same H H' → H' t = some (.tup [.str (readW c n), readV c n]) → Q (.ref t) H') : spDueRead [.ref d, .int n] H Q E := ⟨d, M, c, n, rfl, hM, hsz, q⟩
theorem MineAt.cut {H1 H2 : Hp} {d : Addr} {M : MF} {c : Cs} {o : Option Int} (h : MineAt H1 d M c) (hO : Off [d] H1 H2) (hI : H2 d = some (.dK (mineF M (c.cut o)))) : MineAt H2 d M (c.cut o) := by
  obtain ⟨vs, e, l⟩ := h.lg
  obtain ⟨⟨n1, n2, n3, n4, n5, n6⟩, _⟩ := h.ne
  exact ⟨hI, hO.at h.st (nin_of n1.symm), ⟨vs, hO.at e (nin_of n2.symm), l.mono (tups_of (fun b hb => by rw [List.mem_singleton.mp hb]; exact ⟨_, h.obj, fun _ z => by cases z⟩) hO)⟩, hO.at h.tr (nin_of n3.symm), hO.at h.cl (nin_of n4.symm), hO.at h.br (nin_of n5.symm), hO.at h.la (nin_of n6.symm), h.nd⟩
def spStep (T : Txt K mg) : Sp := fun vs H Q _ => ∃ (r d : Addr) (F : CF) (M : MF) (c : Cs) (n m B P : Int) (k : Nat), vs = [.ref r, .ref d, .int n, .int m] ∧ MineAt H d M c ∧ ChipAt T.C_Chip H r F c ∧ (∀ a ∈ M.all d, a ∉ F.all r) ∧ Gh H c B P k ∧ k < 900 ∧ 0 ≤ m ∧
  ∀ c' H', Off (M.all d ++ F.all r) H H' → Gh H' c' B P (k + 1) → ChipAt T.C_Chip H' r F c' → MineAt H' d M c' → Q (.bl true) H'
theorem ok_step (T : Txt K mg) : FO P w K mg base 6 T.a__law_step T.fd__law_step ["_law_chip_here", "_law_mine_here", "_law_cell", "_law_k"] (spStep T) := by
  have sc := sc__law_step
  refine T.F__law_step.okX sc (fun vs H Q E h => ?_) (fun cdv A outer s H vs Q E hr h => ?_)
  · obtain ⟨_, _, _, _, _, _, _, _, _, _, rfl, _⟩ := h
    rfl
  · obtain ⟨r, d, F, M, c, n, m, B, P0, k, rfl, hM, hC, hdis, g, hk, hm, q⟩ := h
    refine ⟨_, (pss_cons (ps_set (i := 4) sc.nd rfl (by first | exact Or.inl rfl | exact Or.inr rfl) (pe_op op_sub (pe_op op_mod (pe_op op_fdivW (pv 2) pe_int) (pe_op op_uAdd (pe_callB (cr_ulen) (by rfl) T.b_len bt_len (pa_cons (pe_dget (hu_of hr) (pv 1) pe_str (fun _ _ => rfl)) pa_nil)) pe_int)) pe_int))
      (pss_cons (ps_if (pt_cmpR op_uLt (pe_op op_mod (pv 2) pe_int) pe_int (nomark _)) (pss_cons (ps_set (i := 5) sc.nd rfl (by first | exact Or.inl rfl | exact Or.inr rfl) (pe_ix ix_seq (pe_lst (pa_cons (pe_op op_mod (pv 2) (pe_op op_pow pe_int pe_int)) (pa_cons (pe_tup (pa_cons (pv 3) (pa_cons (pe_op op_mod (pv 2) (pe_op op_pow pe_int pe_int)) pa_nil))) (pa_cons pe_str pa_nil)))) (pe_op op_mod (pv 3) pe_int) (fun _ _ => rfl)))
      (pss_one (ps_ret (pe_cmpR (op_uEq hr.units) (pe_callS (ok_put T) (hr.mono (by decide)) (by rfl) T.g__law_put T.k__law_put T.bd__law_put (passAt (takes_of rfl rfl rfl rfl)) (pa_cons (pv 0) (pa_cons (pv 4) (pa_cons (pv 5) pa_nil)))) (pe_callS (ok_due_put T) (hr.mono (by decide)) (by rfl) T.g__law_due_put T.k__law_due_put T.bd__law_due_put (passAt (takes_of rfl rfl rfl rfl)) (pa_cons (pv 1) (pa_cons (pv 4) (pa_cons (pv 5) pa_nil)))) (nomark _))))) pss_nil)
      (pss_cons (ps_if (pt_cmpR (op_uEq hr.units) (pe_op op_mod (pv 2) pe_int) pe_int (nomark _)) (pss_cons (ps_set (i := 6) sc.nd rfl (by first | exact Or.inl rfl | exact Or.inr rfl) (pe_op op_sub (pe_op op_mod (pe_op op_fdivW (pv 2) pe_int) (pe_op op_uAdd (pe_callB (cr_ulen) (by rfl) T.b_len bt_len (pa_cons (pe_dget (hu_of hr) (pv 1) pe_str (fun _ _ => rfl)) pa_nil)) pe_int)) pe_int))
      (pss_one (ps_ret (pe_cmpR (op_uEq hr.units) (pe_callS (ok_wipe T) (hr.mono (by decide)) (by rfl) T.g__law_wipe T.k__law_wipe T.bd__law_wipe (passAt (takes_of rfl rfl rfl rfl)) (pa_cons (pv 0) (pa_cons (pv 6) pa_nil))) (pe_callS (ok_due_wipe T) (hr.mono (by decide)) (by rfl) T.g__law_due_wipe T.k__law_due_wipe T.bd__law_due_wipe (passAt (takes_of rfl rfl rfl rfl)) (pa_cons (pv 1) (pa_cons (pv 6) pa_nil))) (nomark _))))) pss_nil)
      (pss_cons (ps_if (pt_cmpR (op_uEq hr.units) (pe_op op_mod (pv 2) pe_int) pe_int (nomark _)) (pss_one (ps_ret (pe_cmpR (op_uEq hr.units) (pe_callS (ok_read T) (hr.mono (by decide)) (by rfl) T.g__law_read T.k__law_read T.bd__law_read (passAt (takes_of rfl rfl rfl rfl)) (pa_cons (pv 0) (pa_cons (pv 4) pa_nil))) (pe_callS (ok_due_read T) (hr.mono (by decide)) (by rfl) T.g__law_due_read T.k__law_due_read T.bd__law_due_read (passAt (takes_of rfl rfl rfl rfl)) (pa_cons (pv 1) (pa_cons (pv 4) pa_nil))) (nomark _)))) pss_nil)
      (pss_cons (ps_if (pt_cmpR (op_uEq hr.units) (pe_op op_mod (pv 2) pe_int) pe_int (nomark _)) (pss_cons (ps_dput (hu_of hr) (pv 1) pe_str (pe_op op_mod (pe_op op_fdivW (pv 2) pe_int) pe_int) rfl)
      (pss_one (ps_ret (pe_cmpR op_uIs (pe_methD (k := 3) (pv 0) (hr.mono (by decide)) (passAt (takes_of rfl rfl rfl rfl)) (pa_cons (pe_op op_mod (pe_op op_fdivW (pv 2) pe_int) pe_int) pa_nil)) pe_non (nomark _))))) pss_nil)
      (pss_cons (ps_dput (hu_of hr) (pv 1) pe_str pe_non rfl)
      (pss_one (ps_ret (pe_cmpR op_uIs (pe_methD0 (k := 1) (pv 0) (hr.mono (by decide)) (passAt (takes_of rfl rfl rfl rfl))) pe_non (nomark _)))))))))), ?_⟩
    have hsz := hC.sz
    have hgl := g.log
    have ho := hM.obj
    unfold mineF at ho
    have a1 := hM.st
    have a4 := hM.br
    have z1 := hsz.stuff
    have z3 := hsz.p
    have z4 := hsz.b
    have z5 := hsz.broken
    have hbp : 0 < c.b * c.p := Int.mul_pos (by omega) (by omega)
    have hs2 : 0 < (c.stuff.length : Int) + 2 := by omega
    have hb2 : 0 < (c.broken.length : Int) + 2 := by omega
    have hdC : ∀ a ∈ F.all r, a ∉ [d] := fun a ha => nin_of (fun z => hdis d (by simp [MF.all]) (z ▸ ha))
    have hdM : ∀ a ∈ F.all r, a ∉ M.all d := fun a ha hb => hdis a hb ha
    have offF : ∀ {Ha Hb : Hp}, Off (F.all r) Ha Hb → Off (M.all d ++ F.all r) Ha Hb := fun h => h.sub fun b hb => List.mem_append_right _ hb
    have offM : ∀ {Ha Hb : Hp}, Off (M.all d) Ha Hb → Off (M.all d ++ F.all r) Ha Hb := fun h => h.sub fun b hb => List.mem_append_left _ hb
    walk_at "begin"
    walk_at "go"
    generalize n / 8 % ((c.stuff.length : Int) + 2) - 1 = pg
    walk_at "if"
    refine x_iteD (fun hw => ?_) (fun hw => ?_)
    · walk_at "go"
      rename_i t0 H1 ht0 hs1 hn1 l0 H2 hl0 hs2' hn2
      obtain ⟨v, hv⟩ : ∃ v, [V.int (n % 10 ^ 30), V.ref t0, V.str "a"].getD (m % 3).toNat V.non = v := ⟨_, rfl⟩
      have hSN : SN H2 v := by
        have hm3 : m % 3 = 0 ∨ m % 3 = 1 ∨ m % 3 = 2 := by omega
        rw [← hv]
        rcases hm3 with e | e | e <;> rw [e]
        · exact .inr (.inl ⟨_, rfl⟩)
        · refine .inr (.inr (.inr ⟨t0, _, rfl, hs2' _ _ hn1, fun x hx => ?_⟩))
          simp only [List.mem_cons, List.not_mem_nil, or_false] at hx
          rcases hx with rfl | rfl <;> exact .inr (.inl ⟨_, rfl⟩)
        · exact .inr (.inr (.inl ⟨_, rfl, by decide +kernel⟩))
      rw [hv]
      have s12 := hs1.trans hs2'
      have hC2 := hC.mono s12
      have hM2 := hM.off (Off.of (S := []) s12) (fun _ _ z => by cases z) (TupS.of s12)
      refine x_put8 hC2 (by omega) fun t1 H3 hO3 hC3 ht1 => ?_
      have hM3 := hM2.off hO3 hdis (hC2.tups hO3)
      have hoff3 : Off (M.all d ++ F.all r) H H3 := (Off.of s12).trans (offF hO3)
      have g3 := (g.mono ((TupS.of s12).trans (hC2.tups hO3))).put (n := pg) (hSN.mono (hC2.tups hO3))
      clear hO3
      walk_at "go"
      refine x_duePut hM3 hsz g.tr (by omega) fun t2 H4 hO4 hM4 ht2 => ?_
      have tS := tups_of hM3.there hO4
      exact x_eqPair (tS _ _ ht1) ht2 resW_ok (.inr (.inl ⟨_, rfl⟩)) (q _ H4 (hoff3.trans (offM hO4)) (g3.mono tS) (hC3.off hO4 hdM tS) hM4)
    walk_at "go"
    walk_at "if"
    refine x_iteD (fun hw2 => ?_) (fun hw2 => ?_)
    · walk_at "go"
      generalize n / 8 % ((c.broken.length : Int) + 2) - 1 = bk
      refine x_wipe8 hC (by omega) fun t1 H1 hO1 hC1 ht1 => ?_
      have hM1 := hM.off hO1 hdis (hC.tups hO1)
      have hoff1 := offF hO1
      have g1 := (g.mono (hC.tups hO1)).wipe (n := bk)
      clear hO1
      walk_at "go"
      refine x_dueWipe hM1 hsz g.tr (by omega) fun t2 H2 hO2 hM2 ht2 => ?_
      have tS := tups_of hM1.there hO2
      exact x_eqPair (tS _ _ ht1) ht2 resW_ok (.inr (.inl ⟨_, rfl⟩)) (q _ H2 (hoff1.trans (offM hO2)) (g1.mono tS) (hC1.off hO2 hdM tS) hM2)
    walk_at "go"
    walk_at "if"
    refine x_iteD (fun hw3 => ?_) (fun hw3 => ?_)
    · walk_at "go"
      refine x_read8 hC fun t1 H1 hs1 ht1 => ?_
      have hM1 := hM.off (Off.of (S := []) hs1) (fun _ _ z => by cases z) (TupS.of hs1)
      walk_at "go"
      refine x_dueRead hM1 hsz fun t2 H2 hs2' ht2 => ?_
      have hM2 := hM1.off (Off.of (S := []) hs2') (fun _ _ z => by cases z) (TupS.of hs2')
      have g2 := g.mono (TupS.of (hs1.trans hs2'))
      exact x_eqPair (hs2' _ _ ht1) ht2 readW_ok (g2.readV hsz) (q _ H2 (Off.of (hs1.trans hs2')) g2.succ (hC.mono (hs1.trans hs2')) hM2)
    walk_at "go"
    walk_at "if"
    refine x_iteD (fun hw4 => ?_) (fun hw4 => ?_)
    · walk_at "go"
      have hj : 0 ≤ n / 8 % 10 ∧ n / 8 % 10 < 10 := by omega
      refine x_dpS (kvs' := mineF M (c.cut (some (n / 8 % 10)))) (by exact ho) (by rfl) (fun H1 hO1 hI1 => ?_) (Nat.le_of_ble_eq_true rfl)
      have hM1 := hM.cut hO1 hI1
      have tS1 : TupS H H1 := tups_of (fun b hb => by rw [List.mem_singleton.mp hb]; exact ⟨_, ho, fun _ z => by cases z⟩) hO1
      have hC1 := hC.off hO1 hdC tS1
      have hoff1 : Off (M.all d ++ F.all r) H H1 := hO1.sub fun b hb => by rw [List.mem_singleton.mp hb]; simp [MF.all]
      clear hO1
      walk_at "go"
      refine x_mCut hC1 ?_
      walk_at "go"
      refine ⟨r, F, c, _, some (n / 8 % 10), rfl, hC1, .int _, fun hin => ?_, fun hin H2 hO2 hC2 => ?_⟩
      · rw [show inB (some (n / 8 % 10)) 0 1000000 = true from decide_eq_true ⟨by omega, by omega⟩] at hin
        cases hin
      · have hM2 := hM1.off hO2 hdis (hC1.tups hO2)
        have g2 := (g.mono (tS1.trans (hC1.tups hO2))).cut (some (n / 8 % 10))
        have hoff2 := hoff1.trans (offF hO2)
        clear hO2
        walk_at "go"
        exact q _ H2 hoff2 g2.succ hC2 hM2
    walk_at "go"
    refine x_dpS (kvs' := mineF M (c.cut none)) (by exact ho) (by rfl) (fun H1 hO1 hI1 => ?_) (Nat.le_of_ble_eq_true rfl)
    have hM1 := hM.cut hO1 hI1
    have tS1 : TupS H H1 := tups_of (fun b hb => by rw [List.mem_singleton.mp hb]; exact ⟨_, ho, fun _ z => by cases z⟩) hO1
    have hC1 := hC.off hO1 hdC tS1
    have hoff1 : Off (M.all d ++ F.all r) H H1 := hO1.sub fun b hb => by rw [List.mem_singleton.mp hb]; simp [MF.all]
    clear hO1
    walk_at "go"
    refine x_mOn hC1 fun H2 hO2 hC2 => ?_
    have hM2 := hM1.off hO2 hdis (hC1.tups hO2)
    have g2 := (g.mono (tS1.trans (hC1.tups hO2))).cut none
    have hoff2 := hoff1.trans (offF hO2)
    clear hO2
    walk_at "go"
    exact q _ H2 hoff2 g2.succ hC2 hM2
/-! ### the ills -/
def IllL (H : Hp) (vs : List V) (is : List (Int × Int)) : Prop := vs.length = is.length ∧ ∀ (i : Nat) x e, vs[i]? = some x → is[i]? = some e → ∃ t, x = .ref t ∧ H t = some (.tup [.int e.1, .int e.2])
theorem IllL.mono {H H' : Hp} {vs : List V} {is : List (Int × Int)} (s : TupS H H') (h : IllL H vs is) : IllL H' vs is := ⟨h.1, fun i x e h1 h2 => by
  obtain ⟨t, q, h⟩ := h.2 i x e h1 h2
  exact ⟨t, q, s _ _ h⟩⟩
def IllOk (B : Int) (is : List (Int × Int)) : Prop := is.length ≤ 3 ∧ (∀ e ∈ is, 0 ≤ e.1 ∧ e.1 < B ∧ 0 ≤ e.2 ∧ e.2 < 9) ∧ is.Pairwise (fun a b => a.1 ≠ b.1)
theorem IllL.nil {H : Hp} : IllL H [] [] := ⟨rfl, fun i x e h _ => by simp at h⟩
theorem IllL.snoc {H : Hp} {vs : List V} {is : List (Int × Int)} {v : V} {e : Int × Int} (h : IllL H vs is) (hv : ∃ t, v = .ref t ∧ H t = some (.tup [.int e.1, .int e.2])) : IllL H (vs ++ [v]) (is ++ [e]) := by
  refine ⟨by simp [h.1], fun i x y h1 h2 => ?_⟩
  by_cases hi : i < vs.length
  · rw [List.getElem?_append_left hi] at h1
    rw [List.getElem?_append_left (h.1 ▸ hi)] at h2
    exact h.2 i x y h1 h2
  · have e1 : i = vs.length := by
      have := (List.getElem?_eq_some_iff.mp h1).1
      simp at this
      omega
    subst e1
    rw [List.getElem?_append_right (Nat.le_refl _)] at h1
    rw [h.1, List.getElem?_append_right (Nat.le_refl _)] at h2
    simp at h1 h2
    subst h1 h2
    exact hv
theorem mod_ne {f B : Int} {i j : Nat} (hij : i < j) (hj : (j : Int) < B) : (f + i) % B ≠ (f + j) % B := fun z => by
  have h := Int.emod_eq_emod_iff_emod_sub_eq_zero.mp z.symm
  rw [show f + (j : Int) - (f + i) = (j : Int) - i by omega, Int.emod_eq_of_lt (by omega) (by omega)] at h
  omega
def spIlls : Sp := fun vs H Q _ => ∃ c B : Int, vs = [.int c, .int B] ∧ 2 ≤ B ∧ B ≤ 16 ∧ ∀ p ws is H', Same H H' → H p = none → H' p = some (.lst ws) → IllL H' ws is → IllOk B is → Q (.ref p) H'
theorem x_mix1 {H : Hp} {Q : VK} {E : XK} {c k : Int} (q : ∀ m : Int, 0 ≤ m → m < 1000003 → Q (.int m) H) : spMix [.int c, .int k] H Q E := ⟨c, k, rfl, q⟩
theorem ok_ills (T : Txt K mg) : FO P w K mg base 2 T.a__law_ills T.fd__law_ills ["_law_cell", "_law_blocks"] spIlls := by
  have sc := sc__law_ills
  refine T.F__law_ills.okX sc (fun vs H Q E h => ?_) (fun cdv A outer s H vs Q E hr h => ?_)
  · obtain ⟨_, _, rfl, _⟩ := h
    rfl
  · obtain ⟨c, B, rfl, hB1, hB2, q⟩ := h
    refine ⟨_, (pss_cons (ps_set (i := 2) sc.nd rfl (by first | exact Or.inl rfl | exact Or.inr rfl) (pe_op op_mod (pe_callS (ok_mix T) (hr.mono (by decide)) (by rfl) T.g__law_mix T.k__law_mix T.bd__law_mix (passAt (takes_of rfl rfl rfl rfl)) (pa_cons (pv 0) (pa_cons pe_int pa_nil))) (pv 1)))
      (pss_cons (ps_set (i := 3) sc.nd rfl (by first | exact Or.inl rfl | exact Or.inr rfl) (pe_callB (cr_umin) (by rfl) T.b_min bt_min (pa_cons (pv 1) (pa_cons (pe_op op_mod (pv 0) pe_int) pa_nil))))
      (pss_one (ps_ret (pe_lc (own := [("_law_k", 4)]) (by rfl) sc.nd (pi_range1 (by rfl) T.b_range (pa_cons (pv 3) pa_nil)) (blkOk_by (own := [("_law_k", 4)]) (N := N__law_ills) (sc := defScope s__law_ills) (by decide +kernel)) (fun _ _ _ _ _ => (pg_name (i := 4) sc.nd rfl (by first | exact Or.inl rfl | exact Or.inr rfl))) (fun _ _ _ _ _ => pts_nil) (fun _ _ _ _ _ => (pe_tup (pa_cons (pe_op op_mod (pe_op (K_add (K := K)) (pv 2) (pv 4)) (pv 1)) (pa_cons (pe_op op_mod (pe_callS (ok_mix T) (hr.mono (by decide)) (by rfl) T.g__law_mix T.k__law_mix T.bd__law_mix passL2 (pa_cons (pv 0) (pa_cons (pe_op (K_add (K := K)) pe_int (pv 4)) pa_nil))) pe_int) pa_nil))))))))), ?_⟩
    walk_at "begin"
    walk_at "go"
    refine x_mix1 fun m hm0 hm1 => ?_
    have hmB : 0 ≤ (if c % 4 < B then c % 4 else B) ∧ (if c % 4 < B then c % 4 else B) ≤ 3 ∧ (if c % 4 < B then c % 4 else B) ≤ B := by split <;> omega
    walk_at "go"
    generalize (if c % 4 < B then c % 4 else B) = mn at hmB ⊢
    generalize m % B = f
    refine x_lcR1K (fun i acc H' => ∃ is : List (Int × Int), IllL H' acc is ∧ is.length = i ∧ ∀ (j : Nat) e, is[j]? = some e → e.1 = (f + (j : Int)) % B ∧ 0 ≤ e.2 ∧ e.2 < 9) (fun i acc H H' s ⟨is, h1, h2⟩ => ⟨is, h1.mono s, h2⟩) ⟨hmB.1, by omega⟩ ⟨[], IllL.nil, rfl, fun j e h => by simp at h⟩ ?_ ?_
    · intro i acc H' hi hs' ⟨is, hI, hil, hie⟩ NY NN hY hN
      dsimp only [wipe]
      walk_at "go"
      refine ⟨rfl, ?_⟩
      walk_at "go"
      refine x_mix1 fun y hy0 hy1 => ?_
      have hy9 : 0 ≤ y % 9 ∧ y % 9 < 9 := by omega
      walk_at "go"
      rename_i t H2 ht hs2 hn2
      refine hY _ _ hs2 ⟨is ++ [((f + (i : Int)) % B, y % 9)], (hI.mono (TupS.of hs2)).snoc ⟨t, rfl, hn2⟩, by rw [List.length_append, hil]; rfl, fun j e he => ?_⟩
      by_cases hj : j < is.length
      · rw [List.getElem?_append_left hj] at he
        exact hie j e he
      · rw [List.getElem?_append_right (by omega)] at he
        have hj2 : j - is.length = 0 := by
          have := (List.getElem?_eq_some_iff.mp he).1
          simp at this
          omega
        rw [hj2] at he
        simp at he
        subst he
        have : j = i := by omega
        subst this
        exact ⟨rfl, hy9.1, hy9.2⟩
    · intro p acc H2 hp hs2 hn2 ⟨is, hI, hil, hie⟩
      refine q p acc is H2 hs2 hp hn2 hI ⟨by omega, fun e he => ?_, ?_⟩
      · obtain ⟨j, hj, rfl⟩ := List.mem_iff_getElem.mp he
        obtain ⟨e1, e2, e3⟩ := hie j _ (List.getElem?_eq_getElem hj)
        rw [e1]
        exact ⟨Int.emod_nonneg _ (by omega), Int.emod_lt_of_pos _ (by omega), e2, e3⟩
      · rw [List.pairwise_iff_getElem]
        intro i j hi hj hij
        rw [(hie i _ (List.getElem?_eq_getElem hi)).1, (hie j _ (List.getElem?_eq_getElem hj)).1]
        exact mod_ne hij (by omega)
theorem x_ills {H : Hp} {Q : VK} {E : XK} {c B : Int} (q : ∀ p ws is H', Same H H' → H p = none → H' p = some (.lst ws) → IllL H' ws is → IllOk B is → Q (.ref p) H') (h : 2 ≤ B ∧ B ≤ 16) : spIlls [.int c, .int B] H Q E := ⟨c, B, rfl, h.1, h.2, q⟩
def setI (is : List (Int × Int)) (l : List V) : List V := is.foldl (fun l e => l.set e.1.toNat (.int e.2)) l
def illF (is : List (Int × Int)) : List (Option Int × Option Int) := is.map fun e => (some e.1, some e.2)
theorem endF_ok {B : Int} : ∀ {is : List (Int × Int)} {l : List V}, (∀ e ∈ is, 0 ≤ e.1 ∧ e.1 < B ∧ 0 ≤ e.2 ∧ e.2 < 9) → is.Pairwise (fun a b => a.1 ≠ b.1) → (∀ e ∈ is, l.getD e.1.toNat .non = .non) → endF B (illF is) l = some (setI is l)
  | [], l, _, _, _ => rfl
  | e :: is, l, hr, hp, hn => by
    have h0 := hr e List.mem_cons_self
    have hp2 := List.pairwise_cons.mp hp
    show endF B ((some e.1, some e.2) :: illF is) l = _
    rw [endF_cons, if_pos (show inB (some e.1) 0 (B - 1) = true from decide_eq_true ⟨h0.1, by omega⟩), if_pos (show inB (some e.2) 0 1000000 = true from decide_eq_true ⟨h0.2.2.1, by omega⟩)]
    simp only [Option.getD_some]
    rw [if_pos (hn e List.mem_cons_self)]
    refine endF_ok (fun x hx => hr x (List.mem_cons_of_mem _ hx)) hp2.2 (fun x hx => ?_)
    have hx0 := hr x (List.mem_cons_of_mem _ hx)
    have hne := hp2.1 x hx
    rw [List.getD_eq_getElem?_getD, List.getElem?_set_ne (by omega), ← List.getD_eq_getElem?_getD]
    exact hn x (List.mem_cons_of_mem _ hx)
theorem setI_last {is : List (Int × Int)} : ∀ {l : List V}, (setI is l).map lastI = is.foldl (fun l e => l.set e.1.toNat e.2) (l.map lastI) := by
  unfold setI
  induction is with
  | nil => intro l; rfl
  | cons e is ih =>
    intro l
    rw [List.foldl_cons, List.foldl_cons, ih, List.map_set]
    rfl
def mostW (mo : Int) : Int := if mo < 4 then mo else 1000000
def lastsI (B : Int) (is : List (Int × Int)) : List V := setI is (List.replicate B.toNat .non)
theorem IllL.at {H : Hp} {ws : List V} {is : List (Int × Int)} {q : Addr} (h : IllL H ws is) (hq : H q = some (.lst ws) ∨ H q = some (.tup ws)) : IllsAt H (.ref q) (illF is) := by
  refine .inr ⟨q, ws, rfl, hq, by unfold illF; rw [List.length_map]; exact h.1, fun i x e h1 h2 => ?_⟩
  unfold illF at h2
  rw [List.getElem?_map] at h2
  cases he : is[i]? with
  | none => rw [he] at h2; simp at h2
  | some y =>
    rw [he] at h2
    simp at h2
    subst h2
    obtain ⟨t, hx, ht⟩ := h.2 i x y h1 he
    exact ⟨t, _, _, hx, ht, .int _, .int _⟩
theorem x_cinit8 {T : Txt K mg} {H H1 : Hp} {Q : VK} {E : XK} {x dx : Addr} {B P mo : Int} {vi : V} {is : List (Int × Int)} (hB : 2 ≤ B ∧ B ≤ 16) (hP : 1 ≤ P ∧ P ≤ 16) (hm : 0 ≤ mo ∧ mo ≤ 1000000) (hx : H x = none) (hs : Same H H1) (hn : H1 x = some (.ins T.C_Chip dx []))
    (hi : IllsAt H1 vi (illF is)) (ok : IllOk B is) (q : ∀ F H', Same H H' → (∀ a ∈ F.all x, H a = none) → ChipAt T.C_Chip H' x F (Cs.new B P mo (lastsI B is)) → Q .non H') : spCInit T [.ref x, .int B, .int P, .int mo, vi] H1 Q E := by
  have e1 : decide (2 ≤ B ∧ B ≤ 16) = true := decide_eq_true hB
  have e2 : decide (1 ≤ P ∧ P ≤ 16) = true := decide_eq_true hP
  have e3 : decide (0 ≤ mo ∧ mo ≤ 1000000) = true := decide_eq_true hm
  have eE : endF B (illF is) (List.replicate B.toNat .non) = some (lastsI B is) := endF_ok ok.2.1 ok.2.2 fun e he => by
    rw [List.getD_eq_getElem?_getD, List.getElem?_replicate]
    split <;> rfl
  refine ⟨x, dx, _, _, _, _, some B, some P, some mo, illF is, rfl, hn, .int B, .int P, .int mo, hi, fun hgd l hl F H' hO hF hC => ?_, fun hno => ?_⟩
  · simp only [Option.getD_some] at hl hC
    rw [eE] at hl
    cases hl
    refine q F H' (Off.same1 hs hO hx) (fun a ha => ?_) hC
    by_cases e : a = x
    · rw [e]; exact hx
    · exact same_none hs (hF a ha e)
  · exfalso
    rcases hno with hno | hno
    · unfold chipGood inB at hno
      dsimp only at hno
      rw [e1, e2, e3] at hno
      cases hno
    · simp only [Option.getD_some] at hno
      rw [eE] at hno
      cases hno
def illD (is : List (Int × Int)) : PyData := .list (is.map fun e => .tuple [.int e.1, .int e.2])
theorem illD_sh (is : List (Int × Int)) : Sh 9 (illD is) := by
  refine Sh.list (k := 8) fun d h => ?_
  obtain ⟨e, _, rfl⟩ := List.mem_map.mp h
  refine Sh.tup (k := 7) fun d h => ?_
  simp only [List.mem_cons, List.not_mem_nil, or_false] at h
  rcases h with rfl | rfl <;> exact Sh.int
theorem IllL.dp {H : Hp} {q : Addr} {ws : List V} {is : List (Int × Int)} (h : IllL H ws is) (hq : H q = some (.lst ws)) : Dp K H (.ref q) (illD is) := by
  refine .lst (SqL.of hq) (dpAll_of (by rw [List.length_map]; exact h.1) fun i v d h1 h2 => ?_)
  rw [List.getElem?_map] at h2
  cases e : is[i]? with
  | none => rw [e] at h2; simp at h2
  | some t =>
    rw [e] at h2
    simp at h2
    subst h2
    obtain ⟨a, rfl, ha⟩ := h.2 i v t h1 e
    exact .tup (SqT.of ha) (.cons (.int _) (.cons (.int _) .nil))
theorem x_eqNil {H : Hp} {q p : Addr} {ws : List V} {is : List (Int × Int)} {Q : VK} (h : IllL H ws is) (hq : H q = some (.lst ws)) (hp : H p = some (.lst [])) (k : Q (.bl is.isEmpty) H) : uEq K (.ref q) (.ref p) H Q := by
  refine x_eqD (h.dp hq) (.lst (SqL.of hp) .nil) (illD_sh is) (Sh.list (k := 8) fun d h => by simp at h) ?_
  cases is with
  | nil => exact k
  | cons t ts => exact k
def spMkC8 (T : Txt K mg) : Sp := fun vs H Q _ => ∃ (B P mo : Int) (qi : Addr) (ws : List V) (is : List (Int × Int)), vs = [.int B, .int P, .ref qi, .int mo] ∧ (2 ≤ B ∧ B ≤ 16) ∧ (1 ≤ P ∧ P ≤ 16) ∧ (0 ≤ mo ∧ mo < 8) ∧ H qi = some (.lst ws) ∧ IllL H ws is ∧ IllOk B is ∧
  ∀ r F H', Same H H' → (∀ a ∈ F.all r, H a = none) → ChipAt T.C_Chip H' r F (Cs.new B P (mostW mo) (lastsI B is)) → Q (.ref r) H'
theorem ok_chip (T : Txt K mg) : FO P w K mg base 6 T.a__law_chip T.fd__law_chip ["_law_blocks", "_law_pages", "_law_ills_here", "_law_most"] (spMkC8 T) := by
  have sc := sc__law_chip
  refine T.F__law_chip.okX sc (fun vs H Q E h => ?_) (fun cdv A outer s H vs Q E hr h => ?_)
  · obtain ⟨_, _, _, _, _, _, rfl, _⟩ := h
    rfl
  · obtain ⟨B, P0, mo, qi, ws, is, rfl, hB, hP, hm, hq, hI, hok, q⟩ := h
    refine ⟨_, (pss_cons (ps_if (PW.pt (pw_and (pt_cmpR op_uLt (pv 3) pe_int (nomark _)) (pw_and1 (pt_cmpR (op_uEq hr.units) (pv 2) (pe_lst pa_nil) (nomark _))))) (pss_one (ps_ret (pe_mkS T.mk_Chip (ok_Chip_init T) (hr.mono (by decide)) (by rfl) T.g_Chip T.bd1_Chip_init T.dv1_Chip_init (passAt (takes_of rfl rfl rfl rfl)) (pa_cons (pv 0) (pa_cons (pv 1) (pa_cons (pv 3) pa_nil)))))) pss_nil)
      (pss_cons (ps_if (pt_cmpR op_uLt (pv 3) pe_int (nomark _)) (pss_one (ps_ret (pe_mkS T.mk_Chip (ok_Chip_init T) (hr.mono (by decide)) (by rfl) T.g_Chip T.bd0_Chip_init T.dv0_Chip_init (passAt (takes_of rfl rfl rfl rfl)) (pa_cons (pv 0) (pa_cons (pv 1) (pa_cons (pv 3) (pa_cons (pe_callTy ct_list (by rfl) T.b_list bt_list (pa_cons (pv 2) pa_nil)) pa_nil))))))) pss_nil)
      (pss_cons (ps_if (PW.pt (pw_and (pt_cmpR (op_uEq hr.units) (pv 2) (pe_lst pa_nil) (nomark _)) (pw_and1 (pt_cmpR (op_uEq hr.units) (pv 3) pe_int (nomark _))))) (pss_one (ps_ret (pe_mkS T.mk_Chip (ok_Chip_init T) (hr.mono (by decide)) (by rfl) T.g_Chip T.bd0_Chip_init T.dv0_Chip_init (passAt (takes_of rfl rfl rfl rfl)) (pa_cons (pv 0) (pa_cons (pv 1) (pa_cons pe_int (pa_cons pe_non pa_nil))))))) pss_nil)
      (pss_cons (ps_if (pt_cmpR (op_uEq hr.units) (pv 2) (pe_lst pa_nil) (nomark _)) (pss_one (ps_ret (pe_mkS T.mk_Chip (ok_Chip_init T) (hr.mono (by decide)) (by rfl) T.g_Chip T.bd2_Chip_init T.dv2_Chip_init (passAt (takes_of rfl rfl rfl rfl)) (pa_cons (pv 0) (pa_cons (pv 1) pa_nil))))) pss_nil)
      (pss_one (ps_ret (pe_mkS T.mk_Chip (ok_Chip_init T) (hr.mono (by decide)) (by rfl) T.g_Chip T.bd0_Chip_init T.dv0_Chip_init (passAt (takes_of rfl rfl rfl rfl)) (pa_cons (pv 0) (pa_cons (pv 1) (pa_cons pe_int (pa_cons (pe_callTy ct_tuple (by rfl) T.b_tuple bt_tuple (pa_cons (pv 2) pa_nil)) pa_nil))))))))))), ?_⟩
    have hmw : mo < 4 → mostW mo = mo := fun h => by unfold mostW; rw [if_pos h]
    have hmw2 : ¬ mo < 4 → mostW mo = 1000000 := fun h => by unfold mostW; rw [if_neg h]
    walk_at "begin"
    walk_at "if"
    refine x_iteD (fun h4 => ?_) (fun h4 => ?_)
    · walk_at "go"
      rename_i p0 H1 hp0 hs1 hn1
      refine x_eqNil (hI.mono (TupS.of hs1)) (hs1 _ _ hq) hn1 ?_
      walk_at "go"
      refine x_iteB (fun he => ?_) (fun he => ?_)
      · have e0 : is = [] := List.isEmpty_iff.mp he
        subst e0
        walk_at "go"
        rename_i x dx Hm hx hdx hne hsm hnm hdd
        refine x_cinit8 hB hP ⟨hm.1, by omega⟩ hx hsm hnm (.inl ⟨rfl, rfl⟩) hok fun F H2 hs2 hF hC => ⟨rfl, ?_⟩
        rw [hmw h4] at q
        exact q x F H2 ((hs1).trans hs2) (fun a ha => same_none (hs1) (hF a ha)) hC
      · walk_at "go"
        walk_at "if"
        refine x_iteD (fun _ => ?_) (fun h => absurd h4 h)
        walk_at "go"
        rename_i l2 H2' hl2 hs2' hn2 x dx Hm hx hdx hne hsm hnm hdd
        have sm : Same H Hm := (hs1.trans hs2').trans hsm
        refine x_cinit8 hB hP ⟨hm.1, by omega⟩ hx hsm hnm ((hI.mono (TupS.of sm)).at (.inl (hsm _ _ hn2))) hok fun F H2 hs2 hF hC => ⟨rfl, ?_⟩
        rw [hmw h4] at q
        exact q x F H2 ((hs1.trans hs2').trans hs2) (fun a ha => same_none (hs1.trans hs2') (hF a ha)) hC
    · walk_at "go"
      walk_at "if"
      refine x_iteD (fun h => absurd h h4) (fun _ => ?_)
      walk_at "go"
      walk_at "if"
      rename_i p0 H1 hp0 hs1 hn1
      refine x_eqNil (hI.mono (TupS.of hs1)) (hs1 _ _ hq) hn1 ?_
      walk_at "go"
      refine x_iteB (fun he => ?_) (fun he => ?_)
      · have e0 : is = [] := List.isEmpty_iff.mp he
        subst e0
        walk_at "go"
        refine x_iteD (fun h5 => ?_) (fun h5 => ?_)
        · walk_at "go"
          rename_i x dx Hm hx hdx hne hsm hnm hdd
          refine x_cinit8 hB hP ⟨by decide, by decide⟩ hx hsm hnm (.inl ⟨rfl, rfl⟩) hok fun F H2 hs2 hF hC => ⟨rfl, ?_⟩
          rw [hmw2 h4] at q
          exact q x F H2 ((hs1).trans hs2) (fun a ha => same_none (hs1) (hF a ha)) hC
        · walk_at "go"
          walk_at "if"
          rename_i p2 H3 hp2 hs3 hn3
          refine x_eqNil (hI.mono (TupS.of (hs1.trans hs3))) (hs3 _ _ (hs1 _ _ hq)) hn3 ?_
          walk_at "go"
          refine iteT ?_
          walk_at "go"
          rename_i x dx Hm hx hdx hne hsm hnm hdd
          refine x_cinit8 hB hP ⟨by decide, by decide⟩ hx hsm hnm (.inl ⟨rfl, rfl⟩) hok fun F H2 hs2 hF hC => ⟨rfl, ?_⟩
          rw [hmw2 h4] at q
          exact q x F H2 ((hs1.trans hs3).trans hs2) (fun a ha => same_none (hs1.trans hs3) (hF a ha)) hC
      · walk_at "go"
        walk_at "if"
        rename_i p2 H3 hp2 hs3 hn3
        refine x_eqNil (hI.mono (TupS.of (hs1.trans hs3))) (hs3 _ _ (hs1 _ _ hq)) hn3 ?_
        rw [he]
        walk_at "go"
        rename_i l2 H2' hl2 hs2' hn2 x dx Hm hx hdx hne hsm hnm hdd
        have s2 : Same H H2' := (hs1.trans hs3).trans hs2'
        refine x_cinit8 hB hP ⟨by decide, by decide⟩ hx hsm hnm ((hI.mono (TupS.of (s2.trans hsm))).at (.inr (hsm _ _ hn2))) hok fun F H2 hs2 hF hC => ⟨rfl, ?_⟩
        rw [hmw2 h4] at q
        exact q x F H2 (s2.trans hs2) (fun a ha => same_none s2 (hF a ha)) hC
def setN (is : List (Int × Int)) (l : List Int) : List Int := is.foldl (fun l e => l.set e.1.toNat e.2) l
theorem setN_len : ∀ {is : List (Int × Int)} {l : List Int}, (setN is l).length = l.length
  | [], _ => rfl
  | e :: is, l => by
    show (setN is (l.set e.1.toNat e.2)).length = _
    rw [setN_len, List.length_set]
theorem setN_snoc {is : List (Int × Int)} {e : Int × Int} {l : List Int} : setN (is ++ [e]) l = (setN is l).set e.1.toNat e.2 := by
  unfold setN
  rw [List.foldl_append]
  rfl
def spMineC : Sp := fun vs H Q _ => ∃ (B P mo : Int) (qi : Addr) (ws : List V) (is : List (Int × Int)), vs = [.int B, .int P, .ref qi, .int mo] ∧ (2 ≤ B ∧ B ≤ 16) ∧ (1 ≤ P ∧ P ≤ 16) ∧ (0 ≤ mo ∧ mo < 8) ∧ H qi = some (.lst ws) ∧ IllL H ws is ∧ IllOk B is ∧
  ∀ d M H', Same H H' → (∀ a ∈ M.all d, H a = none) → MineAt H' d M (Cs.new B P (mostW mo) (lastsI B is)) → Q (.ref d) H'
theorem ok_mine (T : Txt K mg) : FO P w K mg base 1 T.a__law_mine T.fd__law_mine ["_law_blocks", "_law_pages", "_law_ills_here", "_law_most"] spMineC := by
  have sc := sc__law_mine
  refine T.F__law_mine.okX sc (fun vs H Q E h => ?_) (fun cdv A outer s H vs Q E hr h => ?_)
  · obtain ⟨_, _, _, _, _, _, rfl, _⟩ := h
    rfl
  · obtain ⟨B, P0, mo, qi, ws, is, rfl, hB, hP, hm, hq, hI, hok, q⟩ := h
    refine ⟨_, (pss_cons (ps_set (i := 4) sc.nd rfl (by first | exact Or.inl rfl | exact Or.inr rfl) (pe_disp (pps_cons pe_str (pv 1) (pps_cons pe_str (pe_op op_uMul (pe_lst (pa_cons pe_non pa_nil)) (pe_op op_uMul (pv 0) (pv 1))) (pps_cons pe_str (pe_lst pa_nil) (pps_cons pe_str pe_non (pps_cons pe_str pe_int pps_nil))))) rfl rfl (fun z => nomatch z) (by decide)))
      (pss_cons (ps_if (pt_cmpR op_uLt (pv 3) pe_int (nomark _)) (pss_one (ps_dput (hu_of hr) (pv 4) pe_str (pv 3) rfl)) pss_nil)
      (pss_cons (ps_dput (hu_of hr) (pv 4) pe_str (pe_op op_uMul (pe_lst (pa_cons pe_int pa_nil)) (pv 0)) rfl)
      (pss_cons (ps_dput (hu_of hr) (pv 4) pe_str (pe_op op_uMul (pe_lst (pa_cons pe_int pa_nil)) (pv 0)) rfl)
      (pss_cons (ps_dput (hu_of hr) (pv 4) pe_str (pe_op op_uMul (pe_lst (pa_cons pe_bl pa_nil)) (pv 0)) rfl)
      (pss_cons (ps_dput (hu_of hr) (pv 4) pe_str (pe_op op_uMul (pe_lst (pa_cons (pe_un un_neg pe_int) pa_nil)) (pv 0)) rfl)
      (pss_cons (ps_for (passes_of rfl) rfl (pi_list (pv 2)) (pg_tup (by rfl) (pgs_cons (pg_name (i := 5) sc.nd rfl (by first | exact Or.inl rfl | exact Or.inr rfl)) (pgs_cons (pg_name (i := 6) sc.nd rfl (by first | exact Or.inl rfl | exact Or.inr rfl)) pgs_nil))) (pss_one (ps_asg (pv 6) (pg_sub (pe_dget (hu_of hr) (pv 4) pe_str (fun _ _ => rfl)) (pv 5) set_list))))
      (pss_one (ps_ret (pv 4)))))))))), ?_⟩
    have hBP0 : 0 ≤ B * P0 := Int.mul_nonneg (by omega) (by omega)
    have hBP : B * P0 ≤ 16 * 16 := Int.mul_le_mul hB.2 hP.2 (by omega) (by decide)
    walk_at "begin"
    walk_at "go"
    rename_i d0 D1 hd0 sd1 nd1 x1 D2 hx1 sx1 nx1 s2 D3 hs2' ss2 ns2 lg D4 hlg slg nlg
    refine x_dspK (kvs' := [(.inr "pages", .int P0), (.inr "stuff", .ref s2), (.inr "log", .ref lg), (.inr "left", .non), (.inr "most", .int 1000000)]) [(.inr "pages", .int P0), (.inr "stuff", .ref s2), (.inr "log", .ref lg), (.inr "left", .non), (.inr "most", .int 1000000)] (by walk_at "hp") rfl (Nat.le_of_ble_eq_true rfl) rfl (fun H6 hO6 hI6 => ?_)
    walk_at "go"
    have c1 : d0 ≠ s2 := by walk_at "nn"
    have c2 : d0 ≠ lg := by walk_at "nn"
    refine x_join (fun σ' H7 => σ' = [some (.int B), some (.int P0), some (.ref qi), some (.int mo), some (.ref d0), none, none] ∧ Off [d0] H6 H7 ∧ H7 d0 = some (.dK [(.inr "pages", .int P0), (.inr "stuff", .ref s2), (.inr "log", .ref lg), (.inr "left", .non), (.inr "most", .int (mostW mo))])) (fun R hR => ?_) ?_
    · walk_at "go"
      refine x_iteD (fun h4 => ?_) (fun h4 => ?_)
      · walk_at "go"
        refine x_dpS (kvs' := [(.inr "pages", .int P0), (.inr "stuff", .ref s2), (.inr "log", .ref lg), (.inr "left", .non), (.inr "most", .int (mostW mo))]) (by walk_at "hp") (by unfold mostW; rw [if_pos h4]; rfl) (fun H7 hO7 hI7 => ?_) (Nat.le_of_ble_eq_true rfl)
        exact hR _ _ ⟨rfl, hO7, hI7⟩
      · walk_at "go"
        exact hR _ _ ⟨rfl, Off.refl, by unfold mostW; rw [if_neg h4]; exact hI6⟩
    intro σ' H7 ⟨hσ, hO7, hI7⟩
    subst hσ
    walk_at "go"
    rename_i y1 A1 hy1 sy1 ny1 y2 A2 hy2 sy2 ny2
    refine x_dpS (kvs' := [(.inr "pages", .int P0), (.inr "stuff", .ref s2), (.inr "log", .ref lg), (.inr "left", .non), (.inr "most", .int (mostW mo)), (.inr "tried", .ref y2)]) (by walk_at "hp") rfl (fun H8 hO8 hI8 => ?_) (Nat.le_of_ble_eq_true rfl)
    dsimp only
    walk_at "go"
    rename_i z1 A3 hz1 sz1 nz1 z2 A4 hz2 sz2 nz2
    refine x_dpS (kvs' := [(.inr "pages", .int P0), (.inr "stuff", .ref s2), (.inr "log", .ref lg), (.inr "left", .non), (.inr "most", .int (mostW mo)), (.inr "tried", .ref y2), (.inr "cleared", .ref z2)]) (by walk_at "hp") rfl (fun H9 hO9 hI9 => ?_) (Nat.le_of_ble_eq_true rfl)
    dsimp only
    walk_at "go"
    rename_i w1 A5 hw1 sw1 nw1 w2 A6 hw2 sw2 nw2
    refine x_dpS (kvs' := [(.inr "pages", .int P0), (.inr "stuff", .ref s2), (.inr "log", .ref lg), (.inr "left", .non), (.inr "most", .int (mostW mo)), (.inr "tried", .ref y2), (.inr "cleared", .ref z2), (.inr "broken", .ref w2)]) (by walk_at "hp") rfl (fun H10 hO10 hI10 => ?_) (Nat.le_of_ble_eq_true rfl)
    dsimp only
    walk_at "go"
    rename_i u1 A7 hu1 su1 nu1 u2 A8 hu2 su2 nu2
    refine x_dpS (kvs' := [(.inr "pages", .int P0), (.inr "stuff", .ref s2), (.inr "log", .ref lg), (.inr "left", .non), (.inr "most", .int (mostW mo)), (.inr "tried", .ref y2), (.inr "cleared", .ref z2), (.inr "broken", .ref w2), (.inr "lasts", .ref u2)]) (by walk_at "hp") rfl (fun H11 hO11 hI11 => ?_) (Nat.le_of_ble_eq_true rfl)
    have c3 : d0 ≠ y2 := by walk_at "nn"
    have c4 : d0 ≠ z2 := by walk_at "nn"
    have c5 : d0 ≠ w2 := by walk_at "nn"
    have c9 : d0 ≠ u2 := by walk_at "nn"
    have c6 : s2 ≠ lg := by walk_at "nn"
    have c7 : s2 ≠ y2 := by walk_at "nn"
    have c8 : lg ≠ y2 := by walk_at "nn"
    have c10 : s2 ≠ z2 := by walk_at "nn"
    have c11 : lg ≠ z2 := by walk_at "nn"
    have c12 : y2 ≠ z2 := by walk_at "nn"
    have c13 : s2 ≠ w2 := by walk_at "nn"
    have c14 : lg ≠ w2 := by walk_at "nn"
    have c15 : y2 ≠ w2 := by walk_at "nn"
    have c16 : z2 ≠ w2 := by walk_at "nn"
    have c17 : s2 ≠ u2 := by walk_at "nn"
    have c18 : lg ≠ u2 := by walk_at "nn"
    have c19 : y2 ≠ u2 := by walk_at "nn"
    have c20 : z2 ≠ u2 := by walk_at "nn"
    have c21 : w2 ≠ u2 := by walk_at "nn"
    have f1 : H11 s2 = some (.lst (List.replicate (B * P0).toNat .non)) := by walk_at "hp"
    have f2 : H11 lg = some (.lst []) := by walk_at "hp"
    have f3 : H11 y2 = some (.lst (List.replicate B.toNat (.int 0))) := by walk_at "hp"
    have f4 : H11 z2 = some (.lst (List.replicate B.toNat (.int 0))) := by walk_at "hp"
    have f5 : H11 w2 = some (.lst (List.replicate B.toNat (.bl false))) := by walk_at "hp"
    have f6 : H11 u2 = some (.lst (List.replicate B.toNat (.int (-1)))) := by walk_at "hp"
    have sD4 : Same H D4 := ((sd1.trans sx1).trans ss2).trans slg
    have sH6 : Same H H6 := Off.same1 sD4 hO6 hd0
    have sH7 : Same H H7 := Off.same1 sH6 hO7 hd0
    have sH8 : Same H H8 := Off.same1 ((sH7.trans sy1).trans sy2) hO8 hd0
    have sH9 : Same H H9 := Off.same1 ((sH8.trans sz1).trans sz2) hO9 hd0
    have sH10 : Same H H10 := Off.same1 ((sH9.trans sw1).trans sw2) hO10 hd0
    have sH11 : Same H H11 := Off.same1 ((sH10.trans su1).trans su2) hO11 hd0
    have nM : ∀ b ∈ MF.all ⟨s2, lg, y2, z2, w2, u2⟩ d0, H b = none := fun b hb => by
      unfold MF.all at hb
      simp only [List.mem_cons, List.not_mem_nil, or_false] at hb
      rcases hb with rfl | rfl | rfl | rfl | rfl | rfl | rfl
      · exact hd0
      · exact same_none (sd1.trans sx1) hs2'
      · exact same_none ((sd1.trans sx1).trans ss2) hlg
      · exact same_none (sH7.trans sy1) hy2
      · exact same_none (sH8.trans sz1) hz2
      · exact same_none (sH9.trans sw1) hw2
      · exact same_none (sH10.trans su1) hu2
    have nu2' : H u2 = none := nM u2 (by simp [MF.all])
    clear hO6 hO7 hO8 hO9 hO10 hO11
    dsimp only
    have hq11 := sH11 _ _ hq
    have qne : qi ∉ [u2] := nin_of (fun z => by rw [z, nu2'] at hq; cases hq)
    refine x_seq ?_
    walk_at "go"
    refine x_frL (SqL.of hq11) (fun i σ H' => ∃ (v5 v6 : Option V), σ = [some (.int B), some (.int P0), some (.ref qi), some (.int mo), some (.ref d0), v5, v6] ∧ Off [u2] H11 H' ∧ H' u2 = some (.lst ((setN (is.take i) (List.replicate B.toNat (-1))).map V.int)))
      ⟨_, _, rfl, Off.refl, by rw [show is.take 0 = [] from List.take_zero]; show _ = some (HO.lst ((List.replicate B.toNat (-1 : Int)).map V.int)); rw [List.map_replicate]; exact f6⟩ (fun i σ H' _ ⟨_, _, _, hO, _⟩ => SqL.of (hO.at hq11 qne)) ?_ ?_
    · intro i x σ H' hx ⟨v5, v6, hσ, hO, hIu⟩
      subst hσ
      have hil : i < is.length := by rw [← hI.1]; exact (List.getElem?_eq_some_iff.mp hx).1
      have he : is[i]? = some is[i] := List.getElem?_eq_getElem hil
      obtain ⟨t, rfl, ht⟩ := hI.2 i x _ hx he
      have hr := hok.2.1 _ (List.getElem_mem hil)
      have ek : is.take (i + 1) = is.take i ++ [is[i]] := by rw [List.take_succ, he]; rfl
      rw [ek, setN_snoc]
      generalize is[i] = e at ht hr ⊢
      have ht2 := hO.at (sH11 _ _ ht) (nin_of (fun z => by rw [z, nu2'] at ht; cases ht))
      have hd' := hO.at hI11 (nin_of c9)
      have hsl : ((setN (is.take i) (List.replicate B.toNat (-1))).length : Int) = B := by rw [setN_len, List.length_replicate]; omega
      obtain ⟨eb, eg⟩ := e
      dsimp only at hr ht2 ⊢
      obtain ⟨hr0, hr1, _, _⟩ := hr
      refine x_gtup2 (SqT.of ht2) ?_
      dsimp only [List.set]
      generalize setN (is.take i) (List.replicate B.toNat (-1)) = l at hIu hsl ⊢
      have hsl2 : eb < ((l.map V.int).length : Int) := by rw [List.length_map]; omega
      walk_at "go"
      rename_i H12 hO12 hI12
      exact ⟨_, _, rfl, hO.trans hO12, by rw [hI12, List.map_set]⟩
    · intro σ H' ⟨v5, v6, hσ, hO, hIu⟩
      subst hσ
      rw [hI.1, List.take_length] at hIu
      have sH' : Same H H' := Off.same1 sH11 hO nu2'
      walk_at "go"
      refine q d0 ⟨s2, lg, y2, z2, w2, u2⟩ H' sH' nM ⟨hO.at hI11 (nin_of c9), hO.at f1 (nin_of c17), ⟨[], hO.at f2 (nin_of c18), rfl, fun i v e h => by simp at h⟩, ?_, ?_, ?_, ?_, ?_⟩
      · show H' y2 = some (.lst ((List.replicate _ _).map V.int))
        rw [List.map_replicate]; exact hO.at f3 (nin_of c19)
      · show H' z2 = some (.lst ((List.replicate _ _).map V.int))
        rw [List.map_replicate]; exact hO.at f4 (nin_of c20)
      · show H' w2 = some (.lst ((List.replicate _ _).map V.bl))
        rw [List.map_replicate]; exact hO.at f5 (nin_of c21)
      · show H' u2 = some (.lst (((lastsI B is).map lastI).map V.int))
        unfold lastsI
        rw [setI_last, List.map_replicate]
        exact hIu
      · unfold MF.all
        simp only [List.nodup_cons, List.mem_cons, List.not_mem_nil, or_false, not_or, not_false_eq_true, List.nodup_nil, and_true]
        exact ⟨⟨c1, c2, c3, c4, c5, c9⟩, ⟨c6, c7, c10, c13, c17⟩, ⟨c8, c11, c14, c18⟩, ⟨c12, c15, c19⟩, ⟨c16, c20⟩, c21⟩
def spEnd (T : Txt K mg) : Sp := fun vs H Q _ => ∃ (r d : Addr) (F : CF) (M : MF) (c : Cs) (B P : Int) (k : Nat), vs = [.ref r, .ref d] ∧ MineAt H d M c ∧ ChipAt T.C_Chip H r F c ∧ (∀ a ∈ M.all d, a ∉ F.all r) ∧ Gh H c B P k ∧ k < 900 ∧ ∀ H', Q (.bl true) H'
theorem ok_end (T : Txt K mg) : FO P w K mg base 6 T.a__law_end T.fd__law_end ["_law_chip_here", "_law_mine_here"] (spEnd T) := by
  have sc := sc__law_end
  refine T.F__law_end.okX sc (fun vs H Q E h => ?_) (fun cdv A outer s H vs Q E hr h => ?_)
  · obtain ⟨_, _, _, _, _, _, _, _, rfl, _⟩ := h
    rfl
  · obtain ⟨r, d, F, M, c, B, P0, k, rfl, hM, hC, hdis, g, hk, q⟩ := h
    refine ⟨_, (pss_cons (ps_expr (pe_methD (k := 3) (pv 0) (hr.mono (by decide)) (passAt (takes_of rfl rfl rfl rfl)) (pa_cons pe_int pa_nil)))
      (pss_cons (ps_for (passes_of rfl) rfl (pi_range1 (by rfl) T.b_range (pa_cons (pe_callB (cr_ulen) (by rfl) T.b_len bt_len (pa_cons (pe_dget (hu_of hr) (pv 1) pe_str (fun _ _ => rfl)) pa_nil)) pa_nil)) (pg_name (i := 2) sc.nd rfl (by first | exact Or.inl rfl | exact Or.inr rfl)) (pss_cons (ps_set (i := 3) sc.nd rfl (by first | exact Or.inl rfl | exact Or.inr rfl) (pe_methD (k := 4) (pv 0) (hr.mono (by decide)) (passAt (takes_of rfl rfl rfl rfl)) (pa_cons (pv 2) pa_nil)))
      (pss_cons (ps_if (PW.pt (pw_or (pt_not (pt_truth (pe_callB (cr_uisinstance) (by rfl) T.b_isinstance bt_isinstance (pa_cons (pv 3) (pa_cons (pe_bltn (v := .ty "bool") (by rfl) T.b_bool bt_bool rfl) pa_nil))) (by intro _; rfl))) (pw_or1 (pt_cmpR (op_uNe hr.units) (pv 3) (pe_ix ix_seq (pe_dget (hu_of hr) (pv 1) pe_str (fun _ _ => rfl)) (pv 2) (fun _ _ => rfl)) (nomark _))))) (pss_one (ps_ret pe_bl)) pss_nil)
      (pss_one (ps_if (pt_cmpR (op_uNe hr.units) (pe_methD (k := 4) (pv 0) (hr.mono (by decide)) (passAt (takes_of rfl rfl rfl rfl)) (pa_cons (pv 2) pa_nil)) (pe_ix ix_seq (pe_dget (hu_of hr) (pv 1) pe_str (fun _ _ => rfl)) (pv 2) (fun _ _ => rfl)) (nomark _)) (pss_one (ps_ret pe_bl)) pss_nil)))))
      (pss_cons (ps_if (PW.pt (pw_or (pt_cmpR op_uIsNot (pe_methD0 (k := 1) (pv 0) (hr.mono (by decide)) (passAt (takes_of rfl rfl rfl rfl))) pe_bl (nomark _)) (pw_or1 (pt_cmpR (op_uNe hr.units) (pe_methD0 (k := 1) (pv 0) (hr.mono (by decide)) (passAt (takes_of rfl rfl rfl rfl))) (pe_dget (hu_of hr) (pv 1) pe_str (fun _ _ => rfl)) (nomark _))))) (pss_one (ps_ret pe_bl)) pss_nil)
      (pss_cons (ps_expr (pe_bm PySem.F.plainAttrs_list PySem.F.slot_list_append PySem.F.type_list_append mt_append (pe_methD0 (k := 1) (pv 0) (hr.mono (by decide)) (passAt (takes_of rfl rfl rfl rfl))) (pa_cons (pe_tup (pa_cons pe_str (pa_cons pe_int (pa_cons pe_bl pa_nil)))) pa_nil)))
      (pss_cons (ps_expr (pe_methD0 (k := 1) (pv 0) (hr.mono (by decide)) (passAt (takes_of rfl rfl rfl rfl))))
      (pss_cons (ps_for (passes_of rfl) rfl (pi_range1 (by rfl) T.b_range (pa_cons (pe_callB (cr_ulen) (by rfl) T.b_len bt_len (pa_cons (pe_dget (hu_of hr) (pv 1) pe_str (fun _ _ => rfl)) pa_nil)) pa_nil)) (pg_name (i := 4) sc.nd rfl (by first | exact Or.inl rfl | exact Or.inr rfl)) (pss_one (ps_if (pt_cmpR (op_uNe hr.units) (pe_methD (k := 4) (pv 0) (hr.mono (by decide)) (passAt (takes_of rfl rfl rfl rfl)) (pa_cons (pv 4) pa_nil)) (pe_ix ix_seq (pe_dget (hu_of hr) (pv 1) pe_str (fun _ _ => rfl)) (pv 4) (fun _ _ => rfl)) (nomark _)) (pss_one (ps_ret pe_bl)) pss_nil)))
      (pss_one (ps_ret (pe_andT (pe_cmpR op_uIs (pe_methD0 (k := 1) (pv 0) (hr.mono (by decide)) (passAt (takes_of rfl rfl rfl rfl))) pe_bl (nomark _)) (pe_one (pe_cmpR (op_uEq hr.units) (pe_methD0 (k := 1) (pv 0) (hr.mono (by decide)) (passAt (takes_of rfl rfl rfl rfl))) (pe_dget (hu_of hr) (pv 1) pe_str (fun _ _ => rfl)) (nomark _)))))))))))), ?_⟩
    have hsz := hC.sz
    have z1 := hsz.stuff
    have z2 := hsz.broken
    have z3 := hsz.p
    have z4 := hsz.b
    have z5 := hsz.clr
    have hgl := g.log
    have hbp0 : 0 ≤ c.b * c.p := Int.mul_nonneg (by omega) (by omega)
    have hbp : c.b * c.p ≤ 16 * 16 := Int.mul_le_mul hsz.b.2 hsz.p.2 (by omega) (by decide)
    walk_at "begin"
    walk_at "go"
    refine x_mCut hC ?_
    walk_at "go"
    refine ⟨r, F, c, _, some 0, rfl, hC, .int _, (fun hin => by cases hin), fun hin H1 hO1 hC1 => ?_⟩
    have tS1 := hC.tups hO1
    have hM1 := hM.off hO1 hdis tS1
    have g1 := (g.mono tS1).cut (some 0)
    have ho := hM1.obj
    unfold mineF at ho
    have a1 := hM1.st
    have a4 := hM1.br
    have a3 := hM1.cl
    have hdk : (c.cut (some 0)).dark = true := rfl
    clear hO1
    walk_at "go"
    dsimp only
    refine x_seq ?_
    walk_at "go"
    refine x_frR1 (by omega) (fun i σ H2 => H2 = H1 ∧ ∃ (v2 v3 : Option V), σ = [some (.ref r), some (.ref d), v2, v3, none]) ⟨rfl, _, _, rfl⟩ ?_ ?_
    · intro i σ H2 hi ⟨hH, v2, v3, hσ⟩
      subst hσ hH
      have hi2 : 0 ≤ 0 + (i : Int) ∧ 0 + (i : Int) < (c.cut (some 0)).b := by show 0 ≤ 0 + (i : Int) ∧ 0 + (i : Int) < c.b; omega
      have hi3 : 0 + (i : Int) < (c.broken.length : Int) := by omega
      have hi4 : 0 + (i : Int) < (c.clr.length : Int) := by omega
      walk_at "go"
      refine x_mFailed hC1 ?_
      walk_at "go"
      refine x_failed hC1 ?_ hi2
      walk_at "go"
      walk_at "if"
      walk_at "go"
      refine x_iteD (fun _ => ?_) (fun h => absurd rfl h)
      walk_at "go"
      refine x_mCleared hC1 ?_
      walk_at "go"
      refine x_cleared hC1 ?_ hi2
      walk_at "go"
      refine x_iteD (fun _ => ?_) (fun h => absurd rfl h)
      walk_at "go"
      exact ⟨rfl, _, _, rfl⟩
    · intro σ H2 ⟨hH, v2, v3, hσ⟩
      subst hσ hH
      dsimp only
      walk_at "go"
      walk_at "if"
      refine x_mDark hC1 ?_
      rw [hdk]
      walk_at "go"
      refine x_iteD (fun _ => ?_) (fun h => absurd rfl h)
      walk_at "go"
      refine x_mDeeds hC1 ?_
      refine ⟨r, F, _, rfl, hC1, fun p vs' H3 hs3 hp3 hn3 hl3 => ?_⟩
      have hM3 := hM1.off (Off.of (S := []) hs3) (fun _ _ z => by cases z) (TupS.of hs3)
      have hC3 := hC1.mono hs3
      have g3 := g1.mono (TupS.of hs3)
      obtain ⟨ws, m7, m8⟩ := hM3.lg
      have mo3 := hM3.obj
      unfold mineF at mo3
      walk_at "go"
      refine x_neLog hn3 hl3 m7 m8 g.lw ?_
      walk_at "go"
      refine x_mDeeds hC3 ?_
      refine ⟨r, F, _, rfl, hC3, fun p2 vs2 H4 hs4 hp4 hn4 hl4 => ?_⟩
      have hM4 := hM3.off (Off.of (S := []) hs4) (fun _ _ z => by cases z) (TupS.of hs4)
      have hC4 := hC3.mono hs4
      have hvl : vs2.length < sizeLine := Nat.lt_of_le_of_lt (show vs2.length ≤ 1000 by rw [hl4.1]; show c.log.length ≤ 1000; omega) (by decide)
      walk_at "go"
      rename_i t0 H5 ht0 hs5 hn5 H6 hO6 hI6
      have hn45 := hs5 _ _ hn4
      have hM5 := hM4.off (Off.of (S := []) hs5) (fun _ _ z => by cases z) (TupS.of hs5)
      have tS6 := hO6.tupsL hn45
      have hC6 := (hC4.mono hs5).off hO6 (fun b hb => nin_of (fun z => hC3.fresh hp4 (z ▸ hb))) tS6
      have hM6 := hM5.off hO6 (fun b hb => nin_of (fun z => by
        obtain ⟨o, ho3, _⟩ := hM3.there b hb
        rw [z, hp4] at ho3
        cases ho3)) tS6
      have g6 := ((g3.mono (TupS.of hs4)).mono (TupS.of hs5)).mono tS6
      clear hO6 tS6
      refine x_mOn hC6 fun H7 hO7 hC7 => ?_
      have tS7 := hC6.tups hO7
      have hM7 := hM6.off hO7 hdis tS7
      have g7 := (g6.mono tS7).cut none
      have hdk7 : (((c.cut (some 0)).cut none)).dark = false := rfl
      have mo7 := hM7.obj
      unfold mineF at mo7
      have b1 := hM7.st
      have hst7 : ((c.cut (some 0)).stuff.length : Int) = c.b * c.p := z1
      clear hO7
      walk_at "go"
      dsimp only
      refine x_seq ?_
      walk_at "go"
      refine x_frR1 (by omega) (fun i σ H8 => H8 = H7 ∧ ∃ (v4 : Option V), σ = [some (.ref r), some (.ref d), v2, v3, v4]) ⟨rfl, _, rfl⟩ ?_ ?_
      · intro i σ H8 hi ⟨hH, v4, hσ⟩
        subst hσ hH
        have hi2 : 0 ≤ 0 + (i : Int) ∧ 0 + (i : Int) < c.b * c.p := by omega
        have hil : 0 + (i : Int) < ((c.cut (some 0)).stuff.length : Int) := by omega
        have hsn := g7.st _ (mem_getD (d := .non) (show (0 + (i : Int)).toNat < c.stuff.length by omega))
        walk_at "go"
        refine x_mRead hC7 ?_
        walk_at "go"
        refine x_read hC7 hdk7 ?_ hi2
        walk_at "go"
        refine x_neSN hsn ?_
        walk_at "go"
        exact ⟨rfl, _, rfl⟩
      · intro σ H8 ⟨hH, v4, hσ⟩
        subst hσ hH
        walk_at "go"
        refine x_mDark hC7 ?_
        rw [hdk7]
        walk_at "go"
        refine x_iteD (fun _ => ?_) (fun h => absurd rfl h)
        walk_at "go"
        refine x_mDeeds hC7 ?_
        refine ⟨r, F, _, rfl, hC7, fun p vs' H9 hs9 hp9 hn9 hl9 => ?_⟩
        have hM9 := hM7.off (Off.of (S := []) hs9) (fun _ _ z => by cases z) (TupS.of hs9)
        obtain ⟨ws, m7, m8⟩ := hM9.lg
        have mo9 := hM9.obj
        unfold mineF at mo9
        walk_at "go"
        exact x_eqLog hn9 hl9 m7 m8 g.lw (q _)
theorem x_mkC8 {T : Txt K mg} {H : Hp} {Q : VK} {E : XK} {B P mo : Int} {qi : Addr} {ws : List V} {is : List (Int × Int)} (hB : 2 ≤ B ∧ B ≤ 16) (hP : 1 ≤ P ∧ P ≤ 16) (hm : 0 ≤ mo ∧ mo < 8) (hq : H qi = some (.lst ws)) (hI : IllL H ws is) (hok : IllOk B is)
  (q : ∀ r F H', Same H H' → (∀ a ∈ F.all r, H a = none) → ChipAt T.C_Chip H' r F (Cs.new B P (mostW mo) (lastsI B is)) → Q (.ref r) H') : spMkC8 T [.int B, .int P, .ref qi, .int mo] H Q E := ⟨B, P, mo, qi, ws, is, rfl, hB, hP, hm, hq, hI, hok, q⟩
theorem x_mineC {H : Hp} {Q : VK} {E : XK} {B P mo : Int} {qi : Addr} {ws : List V} {is : List (Int × Int)} (hB : 2 ≤ B ∧ B ≤ 16) (hP : 1 ≤ P ∧ P ≤ 16) (hm : 0 ≤ mo ∧ mo < 8) (hq : H qi = some (.lst ws)) (hI : IllL H ws is) (hok : IllOk B is)
  (q : ∀ d M H', Same H H' → (∀ a ∈ M.all d, H a = none) → MineAt H' d M (Cs.new B P (mostW mo) (lastsI B is)) → Q (.ref d) H') : spMineC [.int B, .int P, .ref qi, .int mo] H Q E := ⟨B, P, mo, qi, ws, is, rfl, hB, hP, hm, hq, hI, hok, q⟩
theorem x_step {T : Txt K mg} {H : Hp} {Q : VK} {E : XK} {r d : Addr} {F : CF} {M : MF} {c : Cs} {n m B P : Int} {k : Nat} (hM : MineAt H d M c) (hC : ChipAt T.C_Chip H r F c) (hdis : ∀ a ∈ M.all d, a ∉ F.all r) (g : Gh H c B P k) (hk : k < 900 ∧ 0 ≤ m)
  (q : ∀ c' H', Off (M.all d ++ F.all r) H H' → Gh H' c' B P (k + 1) → ChipAt T.C_Chip H' r F c' → MineAt H' d M c' → Q (.bl true) H') : spStep T [.ref r, .ref d, .int n, .int m] H Q E := ⟨r, d, F, M, c, n, m, B, P, k, rfl, hM, hC, hdis, g, hk.1, hk.2, q⟩
theorem Gh.new {H : Hp} {B P m : Int} {l : List V} : Gh H (Cs.new B P m l) B P 0 := ⟨rfl, rfl, fun x h => by rw [List.eq_of_mem_replicate h]; exact Int.le_refl _, Nat.le_refl _, fun x h => .inl (List.eq_of_mem_replicate h), fun e h => by cases h⟩
theorem LogW.nil : LogW [] := fun e h => by cases h
theorem LogAll.nil {H : Hp} : LogAll H [] [] := ⟨rfl, fun i v e h _ => by simp at h⟩
/-- two lists that tell the same deeds, apart from S -/
def Told (H : Hp) (S : List Addr) (fa ka : Addr) : Prop := ∃ vs ws es, H fa = some (.lst vs) ∧ LogAll H vs es ∧ H ka = some (.lst ws) ∧ LogAll H ws es ∧ LogW es ∧ fa ∉ S ∧ ka ∉ S
theorem Told.off {H H' : Hp} {S : List Addr} {fa ka : Addr} (h : Told H S fa ka) (s : Off S H H') (ht : TupS H H') : Told H' S fa ka := by
  obtain ⟨vs, ws, es, h1, h2, h3, h4, h5, h6, h7⟩ := h
  exact ⟨vs, ws, es, s.at h1 h6, h2.mono ht, s.at h3 h7, h4.mono ht, h5, h6, h7⟩
def spLaw (K : PySem.W.Frag) : Sp := fun vs H Q _ => ∃ (a : Addr) (ns : List Int), vs = [.ref a] ∧ SqL K H a (ns.map V.int) ∧ ns.length ≤ 63 ∧ ∀ H', Q (.bl true) H'
theorem ok_law (T : Txt K mg) : FO P w K mg base 8 T.a_law T.fd_law ["_law_script"] (spLaw K) := by
  have sc := sc_law
  refine T.F_law.okX sc (fun vs H Q E h => ?_) (fun cdv A outer s H vs Q E hr h => ?_)
  · obtain ⟨a, ns, rfl, _⟩ := h
    rfl
  · obtain ⟨a, ns, rfl, hS, hl, q⟩ := h
    refine ⟨_, (pss_cons (ps_set (i := 1) sc.nd rfl (by first | exact Or.inl rfl | exact Or.inr rfl) (pe_op op_uAdd pe_int (pe_op op_mod (pe_callS (ok_cell_at T) (hr.mono (by decide)) (by rfl) T.g__law_cell_at T.k__law_cell_at T.bd__law_cell_at (passAt (takes_of rfl rfl rfl rfl)) (pa_cons (pv 0) (pa_cons pe_int pa_nil))) pe_int)))
      (pss_cons (ps_set (i := 2) sc.nd rfl (by first | exact Or.inl rfl | exact Or.inr rfl) (pe_op op_uAdd pe_int (pe_op op_mod (pe_op op_fdivW (pe_callS (ok_cell_at T) (hr.mono (by decide)) (by rfl) T.g__law_cell_at T.k__law_cell_at T.bd__law_cell_at (passAt (takes_of rfl rfl rfl rfl)) (pa_cons (pv 0) (pa_cons pe_int pa_nil))) pe_int) pe_int)))
      (pss_cons (ps_if (pt_cmpR (op_uEq hr.units) (pe_op op_mod (pe_op op_fdivW (pe_callS (ok_cell_at T) (hr.mono (by decide)) (by rfl) T.g__law_cell_at T.k__law_cell_at T.bd__law_cell_at (passAt (takes_of rfl rfl rfl rfl)) (pa_cons (pv 0) (pa_cons pe_int pa_nil))) pe_int) pe_int) pe_int (nomark _)) (pss_cons (ps_set (i := 1) sc.nd rfl (by first | exact Or.inl rfl | exact Or.inr rfl) pe_int)
      (pss_one (ps_set (i := 2) sc.nd rfl (by first | exact Or.inl rfl | exact Or.inr rfl) pe_int))) pss_nil)
      (pss_cons (ps_set (i := 3) sc.nd rfl (by first | exact Or.inl rfl | exact Or.inr rfl) (pe_callS (ok_ills T) (hr.mono (by decide)) (by rfl) T.g__law_ills T.k__law_ills T.bd__law_ills (passAt (takes_of rfl rfl rfl rfl)) (pa_cons (pe_callS (ok_cell_at T) (hr.mono (by decide)) (by rfl) T.g__law_cell_at T.k__law_cell_at T.bd__law_cell_at (passAt (takes_of rfl rfl rfl rfl)) (pa_cons (pv 0) (pa_cons pe_int pa_nil))) (pa_cons (pv 1) pa_nil))))
      (pss_cons (ps_set (i := 4) sc.nd rfl (by first | exact Or.inl rfl | exact Or.inr rfl) (pe_op op_mod (pe_callS (ok_cell_at T) (hr.mono (by decide)) (by rfl) T.g__law_cell_at T.k__law_cell_at T.bd__law_cell_at (passAt (takes_of rfl rfl rfl rfl)) (pa_cons (pv 0) (pa_cons pe_int pa_nil))) pe_int))
      (pss_cons (ps_set (i := 5) sc.nd rfl (by first | exact Or.inl rfl | exact Or.inr rfl) (pe_callS (ok_chip T) (hr.mono (by decide)) (by rfl) T.g__law_chip T.k__law_chip T.bd__law_chip (passAt (takes_of rfl rfl rfl rfl)) (pa_cons (pv 1) (pa_cons (pv 2) (pa_cons (pv 3) (pa_cons (pv 4) pa_nil))))))
      (pss_cons (ps_set (i := 6) sc.nd rfl (by first | exact Or.inl rfl | exact Or.inr rfl) (pe_mkS T.mk_Chip (ok_Chip_init T) (hr.mono (by decide)) (by rfl) T.g_Chip T.bd0_Chip_init T.dv0_Chip_init (passAt (takes_of rfl rfl rfl rfl)) (pa_cons (pv 1) (pa_cons (pv 2) (pa_cons pe_int (pa_cons (pe_lst (pa_cons (pe_tup (pa_cons pe_int (pa_cons pe_int pa_nil))) pa_nil)) pa_nil))))))
      (pss_cons (ps_set (i := 7) sc.nd rfl (by first | exact Or.inl rfl | exact Or.inr rfl) (pe_callS (ok_mine T) (hr.mono (by decide)) (by rfl) T.g__law_mine T.k__law_mine T.bd__law_mine (passAt (takes_of rfl rfl rfl rfl)) (pa_cons (pv 1) (pa_cons (pv 2) (pa_cons (pv 3) (pa_cons (pv 4) pa_nil))))))
      (pss_cons (ps_if (PW.pt (pw_or (pt_cmpR (op_uNe hr.units) (pe_fld (pv 5) rfl) (pv 1) (nomark _)) (pw_or (pt_cmpR (op_uNe hr.units) (pe_fld (pv 5) rfl) (pv 2) (nomark _)) (pw_or1 (pt_cmpR (op_uNe hr.units) (pe_fld (pv 5) rfl) (pe_dget (hu_of hr) (pv 7) pe_str (fun _ _ => rfl)) (nomark _)))))) (pss_one (ps_ret pe_bl)) pss_nil)
      (pss_cons (ps_set (i := 8) sc.nd rfl (by first | exact Or.inl rfl | exact Or.inr rfl) (pe_methD0 (k := 1) (pv 5) (hr.mono (by decide)) (passAt (takes_of rfl rfl rfl rfl))))
      (pss_cons (ps_set (i := 9) sc.nd rfl (by first | exact Or.inl rfl | exact Or.inr rfl) (pe_lst pa_nil))
      (pss_cons (ps_for (passes_of rfl) rfl (pi_range2 (by rfl) T.b_range (pa_cons pe_int (pa_cons (pe_callB (cr_umin) (by rfl) T.b_min bt_min (pa_cons (pe_callB (cr_ulen) (by rfl) T.b_len bt_len (pa_cons (pv 0) pa_nil)) (pa_cons pe_int pa_nil))) pa_nil))) (pg_name (i := 10) sc.nd rfl (by first | exact Or.inl rfl | exact Or.inr rfl)) (pss_cons (ps_if (pt_not (pt_truth (pe_callS (ok_step T) (hr.mono (by decide)) (by rfl) T.g__law_step T.k__law_step T.bd__law_step (passAt (takes_of rfl rfl rfl rfl)) (pa_cons (pv 5) (pa_cons (pv 7) (pa_cons (pe_ix ix_seq (pv 0) (pv 10) (fun _ _ => rfl)) (pa_cons (pv 10) pa_nil))))) (by intro _; rfl))) (pss_one (ps_ret pe_bl)) pss_nil)
      (pss_one (ps_if (pt_cmpR (op_uEq hr.units) (pv 10) pe_int (nomark _)) (pss_cons (ps_set (i := 8) sc.nd rfl (by first | exact Or.inl rfl | exact Or.inr rfl) (pe_methD0 (k := 1) (pv 5) (hr.mono (by decide)) (passAt (takes_of rfl rfl rfl rfl))))
      (pss_one (ps_set (i := 9) sc.nd rfl (by first | exact Or.inl rfl | exact Or.inr rfl) (pe_callTy ct_list (by rfl) T.b_list bt_list (pa_cons (pe_dget (hu_of hr) (pv 7) pe_str (fun _ _ => rfl)) pa_nil))))) pss_nil))))
      (pss_cons (ps_if (PW.pt (pw_or (pt_cmpR (op_uNe hr.units) (pv 8) (pv 9) (nomark _)) (pw_or (pt_cmpR (op_uNe hr.units) (pe_methD0 (k := 1) (pv 6) (hr.mono (by decide)) (passAt (takes_of rfl rfl rfl rfl))) (pe_lst pa_nil) (nomark _)) (pw_or (pt_cmpR op_uIsNot (pe_methD (k := 4) (pv 6) (hr.mono (by decide)) (passAt (takes_of rfl rfl rfl rfl)) (pa_cons pe_int pa_nil)) pe_non (nomark _)) (pw_or1 (pt_cmpR op_uIsNot (pe_methD0 (k := 1) (pv 6) (hr.mono (by decide)) (passAt (takes_of rfl rfl rfl rfl))) pe_bl (nomark _))))))) (pss_one (ps_ret pe_bl)) pss_nil)
      (pss_one (ps_ret (pe_callS (ok_end T) (hr.mono (by decide)) (by rfl) T.g__law_end T.k__law_end T.bd__law_end (passAt (takes_of rfl rfl rfl rfl)) (pa_cons (pv 5) (pa_cons (pv 7) pa_nil)))))))))))))))))), ?_⟩
    walk_at "begin"
    walk_at "go"
    refine x_join (fun σ' H' => H' = H ∧ ∃ B P : Int, (2 ≤ B ∧ B ≤ 16) ∧ (1 ≤ P ∧ P ≤ 16) ∧ σ' = [some (.ref a), some (.int B), some (.int P), none, none, none, none, none, none, none, none]) (fun R hR => ?_) ?_
    · walk_at "go"
      refine x_iteD (fun h => ?_) (fun h => ?_)
      · walk_at "go"
        exact hR _ _ ⟨rfl, 16, 16, ⟨by decide, by decide⟩, ⟨by decide, by decide⟩, rfl⟩
      · walk_at "go"
        exact hR _ _ ⟨rfl, _, _, ⟨by omega, by omega⟩, ⟨by omega, by omega⟩, rfl⟩
    intro σ' H' ⟨hH, B, P0, hB, hP, hσ⟩
    subst hσ hH
    walk_at "go"
    refine x_ills (fun qi ws is H1 hs1 hqn hq1 hI1 hok => ?_) hB
    walk_at "go"
    have hmo : 0 ≤ cl ns 2 % 8 ∧ cl ns 2 % 8 < 8 := by omega
    generalize cl ns 2 % 8 = mo at hmo ⊢
    refine x_mkC8 hB hP hmo hq1 hI1 hok fun r F H2 hs2 hF hC => ?_
    walk_at "go"
    rename_i t0 H3 ht0 hs3 hn3 l0 H4 hl0 hs4 hn4 r2 dr2 H5 hr2 hdr2 hne2 hs5 hn5 hdd2
    have hI2 : IllL H5 [.ref t0] [(0, 1)] := IllL.nil.snoc (vs := []) (is := []) ⟨t0, rfl, hs5 _ _ (hs4 _ _ hn3)⟩
    have hok2 : IllOk B [(0, 1)] := ⟨Nat.le_of_ble_eq_true rfl, fun e he => by
      rw [List.mem_singleton] at he
      subst he
      dsimp only
      omega, List.pairwise_singleton _ _⟩
    refine x_cinit8 (H := H4) hB hP ⟨by decide, by decide⟩ hr2 hs5 hn5 (hI2.at (.inl (hs5 _ _ hn4))) hok2 fun F2 H6 hs6 hF2 hC2 => ⟨rfl, ?_⟩
    have s26 : Same H2 H6 := (hs3.trans hs4).trans hs6
    have hC6 := hC.mono s26
    have hq6 := s26 _ _ (hs2 _ _ hq1)
    have hI6 := hI1.mono (TupS.of (hs2.trans s26))
    walk_at "go"
    refine x_mineC hB hP hmo hq6 hI6 hok fun d M H7 hs7 hMn hM => ?_
    have hC7 := hC6.mono hs7
    have hC27 := hC2.mono hs7
    have hdis : ∀ a ∈ M.all d, a ∉ F.all r := fun a ha => hC6.fresh (hMn a ha)
    have hdis2 : ∀ a ∈ M.all d, a ∉ F2.all r2 := fun a ha => hC2.fresh (hMn a ha)
    have hdisF : ∀ a ∈ F2.all r2, a ∉ F.all r := fun a ha => (hC.mono (hs3.trans hs4)).fresh (hF2 a ha)
    have ho7 := hC7.obj
    have hd7 := hM.obj
    unfold chipF at ho7
    unfold mineF at hd7
    walk_at "go"
    walk_at "if"
    refine x_iteD (fun _ => ?_) (fun h => absurd rfl h)
    walk_at "go"
    refine x_iteD (fun _ => ?_) (fun h => absurd rfl h)
    walk_at "go"
    refine x_iteD (fun _ => ?_) (fun h => absurd rfl h)
    walk_at "go"
    refine x_mDeeds hC7 ?_
    refine ⟨r, F, _, rfl, hC7, fun fa vs' H8 hs8 hfa hn8 hl8 => ?_⟩
    walk_at "go"
    rename_i ka H9 hka hs9 hn9
    have s79 : Same H7 H9 := hs8.trans hs9
    have hC9 := hC7.mono s79
    have hM9 := hM.off (Off.of (S := []) s79) (fun _ _ z => by cases z) (TupS.of s79)
    have hC29 := hC27.mono s79
    have freshS : ∀ {Ha : Hp} {c : Cs} {x : Addr}, ChipAt T.C_Chip Ha r F c → MineAt Ha d M c → Ha x = none → x ∉ M.all d ++ F.all r := fun h1 h2 hx hm => by
      rcases List.mem_append.mp hm with hm | hm
      · obtain ⟨o, ho3, _⟩ := h2.there _ hm
        rw [hx] at ho3
        cases ho3
      · exact h1.fresh hx hm
    have hT9 : Told H9 (M.all d ++ F.all r) fa ka := ⟨_, _, [], hs9 _ _ hn8, hl8.mono (TupS.of hs9), hn9, LogAll.nil, LogW.nil, freshS hC7 hM hfa, freshS (hC7.mono hs8) (hM.off (Off.of (S := []) hs8) (fun _ _ z => by cases z) (TupS.of hs8)) hka⟩
    have sH9 : Same H' H9 := (((hs1.trans hs2).trans s26).trans hs7).trans s79
    have sH1 : Same H' H1 := hs1
    have nF : ∀ b ∈ F.all r, H' b = none := fun b hb => same_none hs1 (hF b hb)
    have nM : ∀ b ∈ M.all d, H' b = none := fun b hb => same_none ((hs1.trans hs2).trans s26) (hMn b hb)
    have nS : ∀ b ∈ M.all d ++ F.all r, H' b = none := fun b hb => (List.mem_append.mp hb).elim (nM b) (nF b)
    have hdS : ∀ b ∈ F2.all r2, b ∉ M.all d ++ F.all r := fun b hb hm => by
      rcases List.mem_append.mp hm with hm | hm
      · exact hdis2 b hm hb
      · exact hdisF b hb hm
    refine x_seq ?_
    walk_at "go"
    refine x_frR2 (by omega) (fun i σ Hi => ∃ (f k : Addr) (v10 : Option V) (c : Cs), σ = [some (.ref a), some (.int B), some (.int P0), some (.ref qi), some (.int mo), some (.ref r), some (.ref r2), some (.ref d), some (.ref f), some (.ref k), v10] ∧ Same H' Hi ∧ Gh Hi c B P0 i ∧ ChipAt T.C_Chip Hi r F c ∧ MineAt Hi d M c ∧ ChipAt T.C_Chip Hi r2 F2 (Cs.new B P0 2 (lastsI B [(0, 1)])) ∧ Told Hi (M.all d ++ F.all r) f k)
      ⟨_, _, _, _, rfl, sH9, Gh.new, hC9, hM9, hC29, hT9⟩ ?_ ?_
    · intro i σ Hi hi ⟨f, k, v10, c, hσ, sHi, g, hCi, hMi, hC2i, hTi⟩
      subst hσ
      have hk : 3 + (i : Int) < ns.length ∧ i < 60 := by split at hi <;> omega
      obtain ⟨hk1, hk2⟩ := hk
      walk_at "go"
      walk_at "if"
      refine x_step hMi hCi hdis g (by omega) fun c' Hj hOj gj hCj hMj => ?_
      have tSj : TupS Hi Hj := tups_of (fun b hb => (List.mem_append.mp hb).elim (hMi.there b) (hCi.there b)) hOj
      have hC2j := hC2i.off hOj hdS tSj
      have hTj := hTi.off hOj tSj
      have sHj : Same H' Hj := Off.same sHi hOj nS
      have hdj := hMj.obj
      unfold mineF at hdj
      obtain ⟨wsm, hlgm, hlam⟩ := hMj.lg
      clear hOj
      walk_at "go"
      refine x_iteD (fun h9 => ?_) (fun h9 => ?_)
      · walk_at "go"
        refine x_mDeeds hCj ?_
        refine ⟨r, F, _, rfl, hCj, fun fb vs2 Hk hsk hfb hnk hlk => ?_⟩
        walk_at "go"
        rename_i kb Hl hkb hsl hnl
        have sjl : Same Hj Hl := hsk.trans hsl
        have hMk := hMj.off (Off.of (S := []) hsk) (fun _ _ z => by cases z) (TupS.of hsk)
        exact ⟨_, _, _, _, rfl, sHj.trans sjl, gj.mono (TupS.of sjl), hCj.mono sjl, hMj.off (Off.of (S := []) sjl) (fun _ _ z => by cases z) (TupS.of sjl), hC2j.mono sjl,
          ⟨_, _, _, hsl _ _ hnk, hlk.mono (TupS.of hsl), hnl, hlam.mono (TupS.of sjl), gj.lw, freshS hCj hMj hfb, freshS (hCj.mono hsk) hMk hkb⟩⟩
      · walk_at "go"
        exact ⟨_, _, _, _, rfl, sHj, gj, hCj, hMj, hC2j, hTj⟩
    · intro σ Hi ⟨f, k, v10, c, hσ, sHi, g, hCi, hMi, hC2i, hTi⟩
      subst hσ
      obtain ⟨vs1, ws1, es, t1, t2, t3, t4, t5, _, _⟩ := hTi
      dsimp only
      walk_at "if"
      refine x_neLog t1 t2 t3 t4 t5 ?_
      walk_at "go"
      refine x_mDeeds hC2i ?_
      refine ⟨r2, F2, _, rfl, hC2i, fun p vs2 Hk hsk hpk hnk hlk => ?_⟩
      walk_at "go"
      rename_i p3 Hl hp3 hsl hnl
      refine x_neLog (hsl _ _ hnk) (hlk.mono (TupS.of hsl)) hnl LogAll.nil LogW.nil ?_
      have skl : Same Hi Hl := hsk.trans hsl
      have hC2l := hC2i.mono skl
      have hd2 : (Cs.new B P0 2 (lastsI B [(0, 1)])).dark = false := rfl
      have hBP1 : 1 ≤ B * P0 := Int.mul_pos (by omega) (by omega)
      walk_at "go"
      refine x_mRead hC2l ?_
      walk_at "go"
      refine x_read hC2l hd2 ?_ (show 0 ≤ (0 : Int) ∧ (0 : Int) < B * P0 by omega)
      have e0 : (Cs.new B P0 2 (lastsI B [(0, 1)])).stuff.getD (0 : Int).toNat V.non = V.non := List.eq_of_mem_replicate (mem_getD (l := List.replicate (B * P0).toNat V.non) (by rw [List.length_replicate]; omega))
      rw [e0]
      walk_at "go"
      refine x_iteD (fun _ => ?_) (fun h => absurd rfl h)
      walk_at "go"
      refine x_mDark hC2l ?_
      rw [hd2]
      walk_at "go"
      refine x_iteD (fun _ => ?_) (fun h => absurd rfl h)
      walk_at "go"
      exact ⟨r, d, F, M, c, B, P0, _, rfl, hMi.off (Off.of (S := []) skl) (fun _ _ z => by cases z) (TupS.of skl), hCi.mono skl, hdis, g.mono (TupS.of skl), by split <;> omega, q⟩
end

theorem all_mk {l : PySem.W.OpenLaw} {w : World} {K : PySem.W.Frag} {h : Heap} {mg : Str → Option Value} {fa : Addr} (X : K.In h) (G : h.Ns mainGlobals mg) (hfa : mg "law" = some (.ref fa))
    {f_BlockFailed_init : Addr} {od_BlockFailed_init an_BlockFailed_init : Option Addr} {sl_BlockFailed_init : Array (Option Value)} {oc_BlockFailed_init kV_BlockFailed_init dc_BlockFailed_init pm_BlockFailed_init cd_BlockFailed_init ct_BlockFailed_init : Value}
    {f_NotClear_init : Addr} {od_NotClear_init an_NotClear_init : Option Addr} {sl_NotClear_init : Array (Option Value)} {oc_NotClear_init kV_NotClear_init dc_NotClear_init pm_NotClear_init cd_NotClear_init ct_NotClear_init : Value}
    {f_is_whole : Addr} {od_is_whole an_is_whole : Option Addr} {sl_is_whole : Array (Option Value)} {oc_is_whole kV_is_whole dc_is_whole pm_is_whole cd_is_whole ct_is_whole : Value}
    {f_is_within : Addr} {od_is_within an_is_within : Option Addr} {sl_is_within : Array (Option Value)} {oc_is_within kV_is_within dc_is_within pm_is_within cd_is_within ct_is_within : Value}
    {f_endurance : Addr} {od_endurance an_endurance : Option Addr} {sl_endurance : Array (Option Value)} {oc_endurance kV_endurance dc_endurance pm_endurance cd_endurance ct_endurance : Value}
    {f_Chip_init : Addr} {od_Chip_init an_Chip_init : Option Addr} {sl_Chip_init : Array (Option Value)} {oc_Chip_init kV_Chip_init dc_Chip_init pm_Chip_init cd_Chip_init ct_Chip_init : Value}
    {dV_Chip_init : Value}
    {f_Chip_need_page : Addr} {od_Chip_need_page an_Chip_need_page : Option Addr} {sl_Chip_need_page : Array (Option Value)} {oc_Chip_need_page kV_Chip_need_page dc_Chip_need_page pm_Chip_need_page cd_Chip_need_page ct_Chip_need_page : Value}
    {f_Chip_need_block : Addr} {od_Chip_need_block an_Chip_need_block : Option Addr} {sl_Chip_need_block : Array (Option Value)} {oc_Chip_need_block kV_Chip_need_block dc_Chip_need_block pm_Chip_need_block cd_Chip_need_block ct_Chip_need_block : Value}
    {f_Chip_need_power : Addr} {od_Chip_need_power an_Chip_need_power : Option Addr} {sl_Chip_need_power : Array (Option Value)} {oc_Chip_need_power kV_Chip_need_power dc_Chip_need_power pm_Chip_need_power cd_Chip_need_power ct_Chip_need_power : Value}
    {f_Chip_need_good : Addr} {od_Chip_need_good an_Chip_need_good : Option Addr} {sl_Chip_need_good : Array (Option Value)} {oc_Chip_need_good kV_Chip_need_good dc_Chip_need_good pm_Chip_need_good cd_Chip_need_good ct_Chip_need_good : Value}
    {f_Chip_goes_well : Addr} {od_Chip_goes_well an_Chip_goes_well : Option Addr} {sl_Chip_goes_well : Array (Option Value)} {oc_Chip_goes_well kV_Chip_goes_well dc_Chip_goes_well pm_Chip_goes_well cd_Chip_goes_well ct_Chip_goes_well : Value}
    {f_Chip_put : Addr} {od_Chip_put an_Chip_put : Option Addr} {sl_Chip_put : Array (Option Value)} {oc_Chip_put kV_Chip_put dc_Chip_put pm_Chip_put cd_Chip_put ct_Chip_put : Value}
    {f_Chip_wipe : Addr} {od_Chip_wipe an_Chip_wipe : Option Addr} {sl_Chip_wipe : Array (Option Value)} {oc_Chip_wipe kV_Chip_wipe dc_Chip_wipe pm_Chip_wipe cd_Chip_wipe ct_Chip_wipe : Value}
    {f_Chip_read : Addr} {od_Chip_read an_Chip_read : Option Addr} {sl_Chip_read : Array (Option Value)} {oc_Chip_read kV_Chip_read dc_Chip_read pm_Chip_read cd_Chip_read ct_Chip_read : Value}
    {f_Chip_cut_after : Addr} {od_Chip_cut_after an_Chip_cut_after : Option Addr} {sl_Chip_cut_after : Array (Option Value)} {oc_Chip_cut_after kV_Chip_cut_after dc_Chip_cut_after pm_Chip_cut_after cd_Chip_cut_after ct_Chip_cut_after : Value}
    {f_Chip_power_on : Addr} {od_Chip_power_on an_Chip_power_on : Option Addr} {sl_Chip_power_on : Array (Option Value)} {oc_Chip_power_on kV_Chip_power_on dc_Chip_power_on pm_Chip_power_on cd_Chip_power_on ct_Chip_power_on : Value}
    {f_Chip_is_dark : Addr} {od_Chip_is_dark an_Chip_is_dark : Option Addr} {sl_Chip_is_dark : Array (Option Value)} {oc_Chip_is_dark kV_Chip_is_dark dc_Chip_is_dark pm_Chip_is_dark cd_Chip_is_dark ct_Chip_is_dark : Value}
    {f_Chip_cleared : Addr} {od_Chip_cleared an_Chip_cleared : Option Addr} {sl_Chip_cleared : Array (Option Value)} {oc_Chip_cleared kV_Chip_cleared dc_Chip_cleared pm_Chip_cleared cd_Chip_cleared ct_Chip_cleared : Value}
    {f_Chip_failed : Addr} {od_Chip_failed an_Chip_failed : Option Addr} {sl_Chip_failed : Array (Option Value)} {oc_Chip_failed kV_Chip_failed dc_Chip_failed pm_Chip_failed cd_Chip_failed ct_Chip_failed : Value}
    {f_Chip_deeds : Addr} {od_Chip_deeds an_Chip_deeds : Option Addr} {sl_Chip_deeds : Array (Option Value)} {oc_Chip_deeds kV_Chip_deeds dc_Chip_deeds pm_Chip_deeds cd_Chip_deeds ct_Chip_deeds : Value}
    {f__law_cell_at : Addr} {od__law_cell_at an__law_cell_at : Option Addr} {sl__law_cell_at : Array (Option Value)} {oc__law_cell_at kV__law_cell_at dc__law_cell_at pm__law_cell_at cd__law_cell_at ct__law_cell_at : Value}
    {f__law_mix : Addr} {od__law_mix an__law_mix : Option Addr} {sl__law_mix : Array (Option Value)} {oc__law_mix kV__law_mix dc__law_mix pm__law_mix cd__law_mix ct__law_mix : Value}
    {f__law_put : Addr} {od__law_put an__law_put : Option Addr} {sl__law_put : Array (Option Value)} {oc__law_put kV__law_put dc__law_put pm__law_put cd__law_put ct__law_put : Value}
    {f__law_wipe : Addr} {od__law_wipe an__law_wipe : Option Addr} {sl__law_wipe : Array (Option Value)} {oc__law_wipe kV__law_wipe dc__law_wipe pm__law_wipe cd__law_wipe ct__law_wipe : Value}
    {f__law_read : Addr} {od__law_read an__law_read : Option Addr} {sl__law_read : Array (Option Value)} {oc__law_read kV__law_read dc__law_read pm__law_read cd__law_read ct__law_read : Value}
    {f__law_deed : Addr} {od__law_deed an__law_deed : Option Addr} {sl__law_deed : Array (Option Value)} {oc__law_deed kV__law_deed dc__law_deed pm__law_deed cd__law_deed ct__law_deed : Value}
    {f__law_due_put : Addr} {od__law_due_put an__law_due_put : Option Addr} {sl__law_due_put : Array (Option Value)} {oc__law_due_put kV__law_due_put dc__law_due_put pm__law_due_put cd__law_due_put ct__law_due_put : Value}
    {f__law_due_wipe : Addr} {od__law_due_wipe an__law_due_wipe : Option Addr} {sl__law_due_wipe : Array (Option Value)} {oc__law_due_wipe kV__law_due_wipe dc__law_due_wipe pm__law_due_wipe cd__law_due_wipe ct__law_due_wipe : Value}
    {f__law_due_read : Addr} {od__law_due_read an__law_due_read : Option Addr} {sl__law_due_read : Array (Option Value)} {oc__law_due_read kV__law_due_read dc__law_due_read pm__law_due_read cd__law_due_read ct__law_due_read : Value}
    {f__law_step : Addr} {od__law_step an__law_step : Option Addr} {sl__law_step : Array (Option Value)} {oc__law_step kV__law_step dc__law_step pm__law_step cd__law_step ct__law_step : Value}
    {f__law_ills : Addr} {od__law_ills an__law_ills : Option Addr} {sl__law_ills : Array (Option Value)} {oc__law_ills kV__law_ills dc__law_ills pm__law_ills cd__law_ills ct__law_ills : Value}
    {f__law_end : Addr} {od__law_end an__law_end : Option Addr} {sl__law_end : Array (Option Value)} {oc__law_end kV__law_end dc__law_end pm__law_end cd__law_end ct__law_end : Value}
    {f__law_chip : Addr} {od__law_chip an__law_chip : Option Addr} {sl__law_chip : Array (Option Value)} {oc__law_chip kV__law_chip dc__law_chip pm__law_chip cd__law_chip ct__law_chip : Value}
    {f__law_mine : Addr} {od__law_mine an__law_mine : Option Addr} {sl__law_mine : Array (Option Value)} {oc__law_mine kV__law_mine dc__law_mine pm__law_mine cd__law_mine ct__law_mine : Value}
    {f_law : Addr} {od_law an_law : Option Addr} {sl_law : Array (Option Value)} {oc_law kV_law dc_law pm_law cd_law ct_law : Value}
    {C_Chip : Addr}
    {C_WornError : Addr}
    {C_NoChip : Addr}
    {C_NoPlace : Addr}
    {C_PowerGone : Addr}
    {C_BlockFailed : Addr}
    {nm_BlockFailed q_BlockFailed : Str} {N_BlockFailed : Addr} {bs_BlockFailed bm_BlockFailed : List Value} {sn_BlockFailed : List Str} {sub_BlockFailed : List Value} {ab_BlockFailed : Bool} {col_BlockFailed : Option Bool} {dd_BlockFailed : Option Addr} {k0_BlockFailed k1_BlockFailed k2_BlockFailed k3_BlockFailed k5_BlockFailed : Option Value}
    {C_NotClear : Addr}
    {nm_NotClear q_NotClear : Str} {N_NotClear : Addr} {bs_NotClear bm_NotClear : List Value} {sn_NotClear : List Str} {sub_NotClear : List Value} {ab_NotClear : Bool} {col_NotClear : Option Bool} {dd_NotClear : Option Addr} {k0_NotClear k1_NotClear k2_NotClear k3_NotClear k5_NotClear : Option Value}
    {C_NoValue : Addr}
    {t_MANY : Tok}
    {t_MOST : Tok}
    (l_BlockFailed_init : K.lookup f_BlockFailed_init = some ⟨oc_BlockFailed_init, od_BlockFailed_init, .func (PySem.W.fnOf "__init__" "BlockFailed.__init__" (defArgs s_BlockFailed_init) (defBody s_BlockFailed_init) (defScope s_BlockFailed_init) .none kV_BlockFailed_init dc_BlockFailed_init pm_BlockFailed_init an_BlockFailed_init cd_BlockFailed_init ct_BlockFailed_init), sl_BlockFailed_init⟩)
    (c_BlockFailed_init : PySem.W.codeIn K cd_BlockFailed_init "BlockFailed.__init__" = true)
    (k_BlockFailed_init : PySem.W.keepIn K (.ref f_BlockFailed_init) = true)
    (l_NotClear_init : K.lookup f_NotClear_init = some ⟨oc_NotClear_init, od_NotClear_init, .func (PySem.W.fnOf "__init__" "NotClear.__init__" (defArgs s_NotClear_init) (defBody s_NotClear_init) (defScope s_NotClear_init) .none kV_NotClear_init dc_NotClear_init pm_NotClear_init an_NotClear_init cd_NotClear_init ct_NotClear_init), sl_NotClear_init⟩)
    (c_NotClear_init : PySem.W.codeIn K cd_NotClear_init "NotClear.__init__" = true)
    (k_NotClear_init : PySem.W.keepIn K (.ref f_NotClear_init) = true)
    (a_is_whole : PySem.W.nsIn K mainGlobals "is_whole" = some (some (.ref f_is_whole)))
    (l_is_whole : K.lookup f_is_whole = some ⟨oc_is_whole, od_is_whole, .func (PySem.W.fnOf "is_whole" "is_whole" (defArgs s_is_whole) (defBody s_is_whole) (defScope s_is_whole) .none kV_is_whole dc_is_whole pm_is_whole an_is_whole cd_is_whole ct_is_whole), sl_is_whole⟩)
    (c_is_whole : PySem.W.codeIn K cd_is_whole "is_whole" = true)
    (k_is_whole : PySem.W.keepIn K (.ref f_is_whole) = true)
    (a_is_within : PySem.W.nsIn K mainGlobals "is_within" = some (some (.ref f_is_within)))
    (l_is_within : K.lookup f_is_within = some ⟨oc_is_within, od_is_within, .func (PySem.W.fnOf "is_within" "is_within" (defArgs s_is_within) (defBody s_is_within) (defScope s_is_within) .none kV_is_within dc_is_within pm_is_within an_is_within cd_is_within ct_is_within), sl_is_within⟩)
    (c_is_within : PySem.W.codeIn K cd_is_within "is_within" = true)
    (k_is_within : PySem.W.keepIn K (.ref f_is_within) = true)
    (a_endurance : PySem.W.nsIn K mainGlobals "endurance" = some (some (.ref f_endurance)))
    (l_endurance : K.lookup f_endurance = some ⟨oc_endurance, od_endurance, .func (PySem.W.fnOf "endurance" "endurance" (defArgs s_endurance) (defBody s_endurance) (defScope s_endurance) .none kV_endurance dc_endurance pm_endurance an_endurance cd_endurance ct_endurance), sl_endurance⟩)
    (c_endurance : PySem.W.codeIn K cd_endurance "endurance" = true)
    (k_endurance : PySem.W.keepIn K (.ref f_endurance) = true)
    (l_Chip_init : K.lookup f_Chip_init = some ⟨oc_Chip_init, od_Chip_init, .func (PySem.W.fnOf "__init__" "Chip.__init__" (defArgs s_Chip_init) (defBody s_Chip_init) (defScope s_Chip_init) dV_Chip_init kV_Chip_init dc_Chip_init pm_Chip_init an_Chip_init cd_Chip_init ct_Chip_init), sl_Chip_init⟩)
    (c_Chip_init : PySem.W.codeIn K cd_Chip_init "Chip.__init__" = true)
    (k_Chip_init : PySem.W.keepIn K (.ref f_Chip_init) = true)
    (df_Chip_init : He.dflB K dV_Chip_init dfl_Chip_init = true)
    (l_Chip_need_page : K.lookup f_Chip_need_page = some ⟨oc_Chip_need_page, od_Chip_need_page, .func (PySem.W.fnOf "need_page" "Chip.need_page" (defArgs s_Chip_need_page) (defBody s_Chip_need_page) (defScope s_Chip_need_page) .none kV_Chip_need_page dc_Chip_need_page pm_Chip_need_page an_Chip_need_page cd_Chip_need_page ct_Chip_need_page), sl_Chip_need_page⟩)
    (c_Chip_need_page : PySem.W.codeIn K cd_Chip_need_page "Chip.need_page" = true)
    (k_Chip_need_page : PySem.W.keepIn K (.ref f_Chip_need_page) = true)
    (l_Chip_need_block : K.lookup f_Chip_need_block = some ⟨oc_Chip_need_block, od_Chip_need_block, .func (PySem.W.fnOf "need_block" "Chip.need_block" (defArgs s_Chip_need_block) (defBody s_Chip_need_block) (defScope s_Chip_need_block) .none kV_Chip_need_block dc_Chip_need_block pm_Chip_need_block an_Chip_need_block cd_Chip_need_block ct_Chip_need_block), sl_Chip_need_block⟩)
    (c_Chip_need_block : PySem.W.codeIn K cd_Chip_need_block "Chip.need_block" = true)
    (k_Chip_need_block : PySem.W.keepIn K (.ref f_Chip_need_block) = true)
    (l_Chip_need_power : K.lookup f_Chip_need_power = some ⟨oc_Chip_need_power, od_Chip_need_power, .func (PySem.W.fnOf "need_power" "Chip.need_power" (defArgs s_Chip_need_power) (defBody s_Chip_need_power) (defScope s_Chip_need_power) .none kV_Chip_need_power dc_Chip_need_power pm_Chip_need_power an_Chip_need_power cd_Chip_need_power ct_Chip_need_power), sl_Chip_need_power⟩)
    (c_Chip_need_power : PySem.W.codeIn K cd_Chip_need_power "Chip.need_power" = true)
    (k_Chip_need_power : PySem.W.keepIn K (.ref f_Chip_need_power) = true)
    (l_Chip_need_good : K.lookup f_Chip_need_good = some ⟨oc_Chip_need_good, od_Chip_need_good, .func (PySem.W.fnOf "need_good" "Chip.need_good" (defArgs s_Chip_need_good) (defBody s_Chip_need_good) (defScope s_Chip_need_good) .none kV_Chip_need_good dc_Chip_need_good pm_Chip_need_good an_Chip_need_good cd_Chip_need_good ct_Chip_need_good), sl_Chip_need_good⟩)
    (c_Chip_need_good : PySem.W.codeIn K cd_Chip_need_good "Chip.need_good" = true)
    (k_Chip_need_good : PySem.W.keepIn K (.ref f_Chip_need_good) = true)
    (l_Chip_goes_well : K.lookup f_Chip_goes_well = some ⟨oc_Chip_goes_well, od_Chip_goes_well, .func (PySem.W.fnOf "goes_well" "Chip.goes_well" (defArgs s_Chip_goes_well) (defBody s_Chip_goes_well) (defScope s_Chip_goes_well) .none kV_Chip_goes_well dc_Chip_goes_well pm_Chip_goes_well an_Chip_goes_well cd_Chip_goes_well ct_Chip_goes_well), sl_Chip_goes_well⟩)
    (c_Chip_goes_well : PySem.W.codeIn K cd_Chip_goes_well "Chip.goes_well" = true)
    (k_Chip_goes_well : PySem.W.keepIn K (.ref f_Chip_goes_well) = true)
    (l_Chip_put : K.lookup f_Chip_put = some ⟨oc_Chip_put, od_Chip_put, .func (PySem.W.fnOf "put" "Chip.put" (defArgs s_Chip_put) (defBody s_Chip_put) (defScope s_Chip_put) .none kV_Chip_put dc_Chip_put pm_Chip_put an_Chip_put cd_Chip_put ct_Chip_put), sl_Chip_put⟩)
    (c_Chip_put : PySem.W.codeIn K cd_Chip_put "Chip.put" = true)
    (k_Chip_put : PySem.W.keepIn K (.ref f_Chip_put) = true)
    (l_Chip_wipe : K.lookup f_Chip_wipe = some ⟨oc_Chip_wipe, od_Chip_wipe, .func (PySem.W.fnOf "wipe" "Chip.wipe" (defArgs s_Chip_wipe) (defBody s_Chip_wipe) (defScope s_Chip_wipe) .none kV_Chip_wipe dc_Chip_wipe pm_Chip_wipe an_Chip_wipe cd_Chip_wipe ct_Chip_wipe), sl_Chip_wipe⟩)
    (c_Chip_wipe : PySem.W.codeIn K cd_Chip_wipe "Chip.wipe" = true)
    (k_Chip_wipe : PySem.W.keepIn K (.ref f_Chip_wipe) = true)
    (l_Chip_read : K.lookup f_Chip_read = some ⟨oc_Chip_read, od_Chip_read, .func (PySem.W.fnOf "read" "Chip.read" (defArgs s_Chip_read) (defBody s_Chip_read) (defScope s_Chip_read) .none kV_Chip_read dc_Chip_read pm_Chip_read an_Chip_read cd_Chip_read ct_Chip_read), sl_Chip_read⟩)
    (c_Chip_read : PySem.W.codeIn K cd_Chip_read "Chip.read" = true)
    (k_Chip_read : PySem.W.keepIn K (.ref f_Chip_read) = true)
    (l_Chip_cut_after : K.lookup f_Chip_cut_after = some ⟨oc_Chip_cut_after, od_Chip_cut_after, .func (PySem.W.fnOf "cut_after" "Chip.cut_after" (defArgs s_Chip_cut_after) (defBody s_Chip_cut_after) (defScope s_Chip_cut_after) .none kV_Chip_cut_after dc_Chip_cut_after pm_Chip_cut_after an_Chip_cut_after cd_Chip_cut_after ct_Chip_cut_after), sl_Chip_cut_after⟩)
    (c_Chip_cut_after : PySem.W.codeIn K cd_Chip_cut_after "Chip.cut_after" = true)
    (k_Chip_cut_after : PySem.W.keepIn K (.ref f_Chip_cut_after) = true)
    (l_Chip_power_on : K.lookup f_Chip_power_on = some ⟨oc_Chip_power_on, od_Chip_power_on, .func (PySem.W.fnOf "power_on" "Chip.power_on" (defArgs s_Chip_power_on) (defBody s_Chip_power_on) (defScope s_Chip_power_on) .none kV_Chip_power_on dc_Chip_power_on pm_Chip_power_on an_Chip_power_on cd_Chip_power_on ct_Chip_power_on), sl_Chip_power_on⟩)
    (c_Chip_power_on : PySem.W.codeIn K cd_Chip_power_on "Chip.power_on" = true)
    (k_Chip_power_on : PySem.W.keepIn K (.ref f_Chip_power_on) = true)
    (l_Chip_is_dark : K.lookup f_Chip_is_dark = some ⟨oc_Chip_is_dark, od_Chip_is_dark, .func (PySem.W.fnOf "is_dark" "Chip.is_dark" (defArgs s_Chip_is_dark) (defBody s_Chip_is_dark) (defScope s_Chip_is_dark) .none kV_Chip_is_dark dc_Chip_is_dark pm_Chip_is_dark an_Chip_is_dark cd_Chip_is_dark ct_Chip_is_dark), sl_Chip_is_dark⟩)
    (c_Chip_is_dark : PySem.W.codeIn K cd_Chip_is_dark "Chip.is_dark" = true)
    (k_Chip_is_dark : PySem.W.keepIn K (.ref f_Chip_is_dark) = true)
    (l_Chip_cleared : K.lookup f_Chip_cleared = some ⟨oc_Chip_cleared, od_Chip_cleared, .func (PySem.W.fnOf "cleared" "Chip.cleared" (defArgs s_Chip_cleared) (defBody s_Chip_cleared) (defScope s_Chip_cleared) .none kV_Chip_cleared dc_Chip_cleared pm_Chip_cleared an_Chip_cleared cd_Chip_cleared ct_Chip_cleared), sl_Chip_cleared⟩)
    (c_Chip_cleared : PySem.W.codeIn K cd_Chip_cleared "Chip.cleared" = true)
    (k_Chip_cleared : PySem.W.keepIn K (.ref f_Chip_cleared) = true)
    (l_Chip_failed : K.lookup f_Chip_failed = some ⟨oc_Chip_failed, od_Chip_failed, .func (PySem.W.fnOf "failed" "Chip.failed" (defArgs s_Chip_failed) (defBody s_Chip_failed) (defScope s_Chip_failed) .none kV_Chip_failed dc_Chip_failed pm_Chip_failed an_Chip_failed cd_Chip_failed ct_Chip_failed), sl_Chip_failed⟩)
    (c_Chip_failed : PySem.W.codeIn K cd_Chip_failed "Chip.failed" = true)
    (k_Chip_failed : PySem.W.keepIn K (.ref f_Chip_failed) = true)
    (l_Chip_deeds : K.lookup f_Chip_deeds = some ⟨oc_Chip_deeds, od_Chip_deeds, .func (PySem.W.fnOf "deeds" "Chip.deeds" (defArgs s_Chip_deeds) (defBody s_Chip_deeds) (defScope s_Chip_deeds) .none kV_Chip_deeds dc_Chip_deeds pm_Chip_deeds an_Chip_deeds cd_Chip_deeds ct_Chip_deeds), sl_Chip_deeds⟩)
    (c_Chip_deeds : PySem.W.codeIn K cd_Chip_deeds "Chip.deeds" = true)
    (k_Chip_deeds : PySem.W.keepIn K (.ref f_Chip_deeds) = true)
    (a__law_cell_at : PySem.W.nsIn K mainGlobals "_law_cell_at" = some (some (.ref f__law_cell_at)))
    (l__law_cell_at : K.lookup f__law_cell_at = some ⟨oc__law_cell_at, od__law_cell_at, .func (PySem.W.fnOf "_law_cell_at" "_law_cell_at" (defArgs s__law_cell_at) (defBody s__law_cell_at) (defScope s__law_cell_at) .none kV__law_cell_at dc__law_cell_at pm__law_cell_at an__law_cell_at cd__law_cell_at ct__law_cell_at), sl__law_cell_at⟩)
    (c__law_cell_at : PySem.W.codeIn K cd__law_cell_at "_law_cell_at" = true)
    (k__law_cell_at : PySem.W.keepIn K (.ref f__law_cell_at) = true)
    (a__law_mix : PySem.W.nsIn K mainGlobals "_law_mix" = some (some (.ref f__law_mix)))
    (l__law_mix : K.lookup f__law_mix = some ⟨oc__law_mix, od__law_mix, .func (PySem.W.fnOf "_law_mix" "_law_mix" (defArgs s__law_mix) (defBody s__law_mix) (defScope s__law_mix) .none kV__law_mix dc__law_mix pm__law_mix an__law_mix cd__law_mix ct__law_mix), sl__law_mix⟩)
    (c__law_mix : PySem.W.codeIn K cd__law_mix "_law_mix" = true)
    (k__law_mix : PySem.W.keepIn K (.ref f__law_mix) = true)
    (a__law_put : PySem.W.nsIn K mainGlobals "_law_put" = some (some (.ref f__law_put)))
    (l__law_put : K.lookup f__law_put = some ⟨oc__law_put, od__law_put, .func (PySem.W.fnOf "_law_put" "_law_put" (defArgs s__law_put) (defBody s__law_put) (defScope s__law_put) .none kV__law_put dc__law_put pm__law_put an__law_put cd__law_put ct__law_put), sl__law_put⟩)
    (c__law_put : PySem.W.codeIn K cd__law_put "_law_put" = true)
    (k__law_put : PySem.W.keepIn K (.ref f__law_put) = true)
    (a__law_wipe : PySem.W.nsIn K mainGlobals "_law_wipe" = some (some (.ref f__law_wipe)))
    (l__law_wipe : K.lookup f__law_wipe = some ⟨oc__law_wipe, od__law_wipe, .func (PySem.W.fnOf "_law_wipe" "_law_wipe" (defArgs s__law_wipe) (defBody s__law_wipe) (defScope s__law_wipe) .none kV__law_wipe dc__law_wipe pm__law_wipe an__law_wipe cd__law_wipe ct__law_wipe), sl__law_wipe⟩)
    (c__law_wipe : PySem.W.codeIn K cd__law_wipe "_law_wipe" = true)
    (k__law_wipe : PySem.W.keepIn K (.ref f__law_wipe) = true)
    (a__law_read : PySem.W.nsIn K mainGlobals "_law_read" = some (some (.ref f__law_read)))
    (l__law_read : K.lookup f__law_read = some ⟨oc__law_read, od__law_read, .func (PySem.W.fnOf "_law_read" "_law_read" (defArgs s__law_read) (defBody s__law_read) (defScope s__law_read) .none kV__law_read dc__law_read pm__law_read an__law_read cd__law_read ct__law_read), sl__law_read⟩)
    (c__law_read : PySem.W.codeIn K cd__law_read "_law_read" = true)
    (k__law_read : PySem.W.keepIn K (.ref f__law_read) = true)
    (a__law_deed : PySem.W.nsIn K mainGlobals "_law_deed" = some (some (.ref f__law_deed)))
    (l__law_deed : K.lookup f__law_deed = some ⟨oc__law_deed, od__law_deed, .func (PySem.W.fnOf "_law_deed" "_law_deed" (defArgs s__law_deed) (defBody s__law_deed) (defScope s__law_deed) .none kV__law_deed dc__law_deed pm__law_deed an__law_deed cd__law_deed ct__law_deed), sl__law_deed⟩)
    (c__law_deed : PySem.W.codeIn K cd__law_deed "_law_deed" = true)
    (k__law_deed : PySem.W.keepIn K (.ref f__law_deed) = true)
    (a__law_due_put : PySem.W.nsIn K mainGlobals "_law_due_put" = some (some (.ref f__law_due_put)))
    (l__law_due_put : K.lookup f__law_due_put = some ⟨oc__law_due_put, od__law_due_put, .func (PySem.W.fnOf "_law_due_put" "_law_due_put" (defArgs s__law_due_put) (defBody s__law_due_put) (defScope s__law_due_put) .none kV__law_due_put dc__law_due_put pm__law_due_put an__law_due_put cd__law_due_put ct__law_due_put), sl__law_due_put⟩)
    (c__law_due_put : PySem.W.codeIn K cd__law_due_put "_law_due_put" = true)
    (k__law_due_put : PySem.W.keepIn K (.ref f__law_due_put) = true)
    (a__law_due_wipe : PySem.W.nsIn K mainGlobals "_law_due_wipe" = some (some (.ref f__law_due_wipe)))
    (l__law_due_wipe : K.lookup f__law_due_wipe = some ⟨oc__law_due_wipe, od__law_due_wipe, .func (PySem.W.fnOf "_law_due_wipe" "_law_due_wipe" (defArgs s__law_due_wipe) (defBody s__law_due_wipe) (defScope s__law_due_wipe) .none kV__law_due_wipe dc__law_due_wipe pm__law_due_wipe an__law_due_wipe cd__law_due_wipe ct__law_due_wipe), sl__law_due_wipe⟩)
    (c__law_due_wipe : PySem.W.codeIn K cd__law_due_wipe "_law_due_wipe" = true)
    (k__law_due_wipe : PySem.W.keepIn K (.ref f__law_due_wipe) = true)
    (a__law_due_read : PySem.W.nsIn K mainGlobals "_law_due_read" = some (some (.ref f__law_due_read)))
    (l__law_due_read : K.lookup f__law_due_read = some ⟨oc__law_due_read, od__law_due_read, .func (PySem.W.fnOf "_law_due_read" "_law_due_read" (defArgs s__law_due_read) (defBody s__law_due_read) (defScope s__law_due_read) .none kV__law_due_read dc__law_due_read pm__law_due_read an__law_due_read cd__law_due_read ct__law_due_read), sl__law_due_read⟩)
    (c__law_due_read : PySem.W.codeIn K cd__law_due_read "_law_due_read" = true)
    (k__law_due_read : PySem.W.keepIn K (.ref f__law_due_read) = true)
    (a__law_step : PySem.W.nsIn K mainGlobals "_law_step" = some (some (.ref f__law_step)))
    (l__law_step : K.lookup f__law_step = some ⟨oc__law_step, od__law_step, .func (PySem.W.fnOf "_law_step" "_law_step" (defArgs s__law_step) (defBody s__law_step) (defScope s__law_step) .none kV__law_step dc__law_step pm__law_step an__law_step cd__law_step ct__law_step), sl__law_step⟩)
    (c__law_step : PySem.W.codeIn K cd__law_step "_law_step" = true)
    (k__law_step : PySem.W.keepIn K (.ref f__law_step) = true)
    (a__law_ills : PySem.W.nsIn K mainGlobals "_law_ills" = some (some (.ref f__law_ills)))
    (l__law_ills : K.lookup f__law_ills = some ⟨oc__law_ills, od__law_ills, .func (PySem.W.fnOf "_law_ills" "_law_ills" (defArgs s__law_ills) (defBody s__law_ills) (defScope s__law_ills) .none kV__law_ills dc__law_ills pm__law_ills an__law_ills cd__law_ills ct__law_ills), sl__law_ills⟩)
    (c__law_ills : PySem.W.codeIn K cd__law_ills "_law_ills" = true)
    (k__law_ills : PySem.W.keepIn K (.ref f__law_ills) = true)
    (a__law_end : PySem.W.nsIn K mainGlobals "_law_end" = some (some (.ref f__law_end)))
    (l__law_end : K.lookup f__law_end = some ⟨oc__law_end, od__law_end, .func (PySem.W.fnOf "_law_end" "_law_end" (defArgs s__law_end) (defBody s__law_end) (defScope s__law_end) .none kV__law_end dc__law_end pm__law_end an__law_end cd__law_end ct__law_end), sl__law_end⟩)
    (c__law_end : PySem.W.codeIn K cd__law_end "_law_end" = true)
    (k__law_end : PySem.W.keepIn K (.ref f__law_end) = true)
    (a__law_chip : PySem.W.nsIn K mainGlobals "_law_chip" = some (some (.ref f__law_chip)))
    (l__law_chip : K.lookup f__law_chip = some ⟨oc__law_chip, od__law_chip, .func (PySem.W.fnOf "_law_chip" "_law_chip" (defArgs s__law_chip) (defBody s__law_chip) (defScope s__law_chip) .none kV__law_chip dc__law_chip pm__law_chip an__law_chip cd__law_chip ct__law_chip), sl__law_chip⟩)
    (c__law_chip : PySem.W.codeIn K cd__law_chip "_law_chip" = true)
    (k__law_chip : PySem.W.keepIn K (.ref f__law_chip) = true)
    (a__law_mine : PySem.W.nsIn K mainGlobals "_law_mine" = some (some (.ref f__law_mine)))
    (l__law_mine : K.lookup f__law_mine = some ⟨oc__law_mine, od__law_mine, .func (PySem.W.fnOf "_law_mine" "_law_mine" (defArgs s__law_mine) (defBody s__law_mine) (defScope s__law_mine) .none kV__law_mine dc__law_mine pm__law_mine an__law_mine cd__law_mine ct__law_mine), sl__law_mine⟩)
    (c__law_mine : PySem.W.codeIn K cd__law_mine "_law_mine" = true)
    (k__law_mine : PySem.W.keepIn K (.ref f__law_mine) = true)
    (a_law : PySem.W.nsIn K mainGlobals "law" = some (some (.ref f_law)))
    (l_law : K.lookup f_law = some ⟨oc_law, od_law, .func (PySem.W.fnOf "law" "law" (defArgs s_law) (defBody s_law) (defScope s_law) .none kV_law dc_law pm_law an_law cd_law ct_law), sl_law⟩)
    (c_law : PySem.W.codeIn K cd_law "law" = true)
    (k_law : PySem.W.keepIn K (.ref f_law) = true)
    (aC_Chip : PySem.W.nsIn K mainGlobals "Chip" = some (some (.ref C_Chip)))
    (pg_Chip : PySem.W.plainGet K C_Chip Str.empty = true) (hd_Chip : PySem.W.hasDictIn K C_Chip = true) (po_Chip : PySem.W.plainOver K C_Chip = true) (sa_Chip : PySem.W.findIn K (.ref C_Chip) "__setattr__" = some (some (.builtin "object.__setattr__")))
    (na_Chip_blocks : PySem.W.findIn K (.ref C_Chip) "blocks" = some none)
    (na_Chip_pages : PySem.W.findIn K (.ref C_Chip) "pages" = some none)
    (na_Chip_most : PySem.W.findIn K (.ref C_Chip) "most" = some none)
    (na_Chip_lasts : PySem.W.findIn K (.ref C_Chip) "lasts" = some none)
    (na_Chip_stuff : PySem.W.findIn K (.ref C_Chip) "stuff" = some none)
    (na_Chip_tried : PySem.W.findIn K (.ref C_Chip) "tried" = some none)
    (na_Chip_clearings : PySem.W.findIn K (.ref C_Chip) "clearings" = some none)
    (na_Chip_broken : PySem.W.findIn K (.ref C_Chip) "broken" = some none)
    (na_Chip_left : PySem.W.findIn K (.ref C_Chip) "left" = some none)
    (na_Chip_log : PySem.W.findIn K (.ref C_Chip) "log" = some none)
    (at_Chip_init : PySem.W.findIn K (.ref C_Chip) "__init__" = some (some (.ref f_Chip_init)))
    (fn_Chip_init : PySem.W.isFn K (.ref f_Chip_init) = true)
    (mi_Chip : PySem.W.makesIn K C_Chip = true) (kc_Chip : PySem.W.keepIn K (.ref C_Chip) = true)
    (at_Chip_need_page : PySem.W.findIn K (.ref C_Chip) "need_page" = some (some (.ref f_Chip_need_page)))
    (fn_Chip_need_page : PySem.W.isFn K (.ref f_Chip_need_page) = true)
    (at_Chip_need_block : PySem.W.findIn K (.ref C_Chip) "need_block" = some (some (.ref f_Chip_need_block)))
    (fn_Chip_need_block : PySem.W.isFn K (.ref f_Chip_need_block) = true)
    (at_Chip_need_power : PySem.W.findIn K (.ref C_Chip) "need_power" = some (some (.ref f_Chip_need_power)))
    (fn_Chip_need_power : PySem.W.isFn K (.ref f_Chip_need_power) = true)
    (at_Chip_need_good : PySem.W.findIn K (.ref C_Chip) "need_good" = some (some (.ref f_Chip_need_good)))
    (fn_Chip_need_good : PySem.W.isFn K (.ref f_Chip_need_good) = true)
    (at_Chip_goes_well : PySem.W.findIn K (.ref C_Chip) "goes_well" = some (some (.ref f_Chip_goes_well)))
    (fn_Chip_goes_well : PySem.W.isFn K (.ref f_Chip_goes_well) = true)
    (at_Chip_put : PySem.W.findIn K (.ref C_Chip) "put" = some (some (.ref f_Chip_put)))
    (fn_Chip_put : PySem.W.isFn K (.ref f_Chip_put) = true)
    (at_Chip_wipe : PySem.W.findIn K (.ref C_Chip) "wipe" = some (some (.ref f_Chip_wipe)))
    (fn_Chip_wipe : PySem.W.isFn K (.ref f_Chip_wipe) = true)
    (at_Chip_read : PySem.W.findIn K (.ref C_Chip) "read" = some (some (.ref f_Chip_read)))
    (fn_Chip_read : PySem.W.isFn K (.ref f_Chip_read) = true)
    (at_Chip_cut_after : PySem.W.findIn K (.ref C_Chip) "cut_after" = some (some (.ref f_Chip_cut_after)))
    (fn_Chip_cut_after : PySem.W.isFn K (.ref f_Chip_cut_after) = true)
    (at_Chip_power_on : PySem.W.findIn K (.ref C_Chip) "power_on" = some (some (.ref f_Chip_power_on)))
    (fn_Chip_power_on : PySem.W.isFn K (.ref f_Chip_power_on) = true)
    (at_Chip_is_dark : PySem.W.findIn K (.ref C_Chip) "is_dark" = some (some (.ref f_Chip_is_dark)))
    (fn_Chip_is_dark : PySem.W.isFn K (.ref f_Chip_is_dark) = true)
    (at_Chip_cleared : PySem.W.findIn K (.ref C_Chip) "cleared" = some (some (.ref f_Chip_cleared)))
    (fn_Chip_cleared : PySem.W.isFn K (.ref f_Chip_cleared) = true)
    (at_Chip_failed : PySem.W.findIn K (.ref C_Chip) "failed" = some (some (.ref f_Chip_failed)))
    (fn_Chip_failed : PySem.W.isFn K (.ref f_Chip_failed) = true)
    (at_Chip_deeds : PySem.W.findIn K (.ref C_Chip) "deeds" = some (some (.ref f_Chip_deeds)))
    (fn_Chip_deeds : PySem.W.isFn K (.ref f_Chip_deeds) = true)
    (aC_WornError : PySem.W.nsIn K mainGlobals "WornError" = some (some (.ref C_WornError)))
    (xq_WornError : PySem.W.excIn K C_WornError [.type "ValueError", .type "Exception", .type "BaseException", .type "object"] "ValueError.__new__" = true) (xk_WornError : PySem.W.keepIn K (.ref C_WornError) = true) (xr_WornError : PySem.W.subIn K (.ref C_WornError) (.type "BaseException") = some true) (xt_WornError : PySem.W.typeIn K (.ref C_WornError) = some (.type "type"))
    (aC_NoChip : PySem.W.nsIn K mainGlobals "NoChip" = some (some (.ref C_NoChip)))
    (xq_NoChip : PySem.W.excIn K C_NoChip [.type "ValueError", .type "Exception", .type "BaseException", .type "object"] "ValueError.__new__" = true) (xk_NoChip : PySem.W.keepIn K (.ref C_NoChip) = true) (xr_NoChip : PySem.W.subIn K (.ref C_NoChip) (.type "BaseException") = some true) (xt_NoChip : PySem.W.typeIn K (.ref C_NoChip) = some (.type "type"))
    (aC_NoPlace : PySem.W.nsIn K mainGlobals "NoPlace" = some (some (.ref C_NoPlace)))
    (xq_NoPlace : PySem.W.excIn K C_NoPlace [.type "ValueError", .type "Exception", .type "BaseException", .type "object"] "ValueError.__new__" = true) (xk_NoPlace : PySem.W.keepIn K (.ref C_NoPlace) = true) (xr_NoPlace : PySem.W.subIn K (.ref C_NoPlace) (.type "BaseException") = some true) (xt_NoPlace : PySem.W.typeIn K (.ref C_NoPlace) = some (.type "type"))
    (aC_PowerGone : PySem.W.nsIn K mainGlobals "PowerGone" = some (some (.ref C_PowerGone)))
    (xq_PowerGone : PySem.W.excIn K C_PowerGone [.type "ValueError", .type "Exception", .type "BaseException", .type "object"] "ValueError.__new__" = true) (xk_PowerGone : PySem.W.keepIn K (.ref C_PowerGone) = true) (xr_PowerGone : PySem.W.subIn K (.ref C_PowerGone) (.type "BaseException") = some true) (xt_PowerGone : PySem.W.typeIn K (.ref C_PowerGone) = some (.type "type"))
    (aC_BlockFailed : PySem.W.nsIn K mainGlobals "BlockFailed" = some (some (.ref C_BlockFailed)))
    (xl_BlockFailed : K.lookup C_BlockFailed = some (excClassObj nm_BlockFailed q_BlockFailed C_BlockFailed N_BlockFailed bs_BlockFailed bm_BlockFailed true sn_BlockFailed sub_BlockFailed ab_BlockFailed col_BlockFailed dd_BlockFailed k0_BlockFailed k1_BlockFailed k2_BlockFailed k3_BlockFailed k5_BlockFailed "ValueError.__new__")) (rv_BlockFailed : PySem.HandSPX.refsVE bm_BlockFailed = true)
    (xs_BlockFailed : PySem.W.findIn K (.ref C_BlockFailed) "__setattr__" = some (some (.builtin "object.__setattr__"))) (xr_BlockFailed : PySem.W.subIn K (.ref C_BlockFailed) (.type "BaseException") = some true) (xy_BlockFailed : PySem.W.typeIn K (.ref C_BlockFailed) = some (.type "type")) (xk_BlockFailed : PySem.W.keepIn K (.ref C_BlockFailed) = true)
    (xi_BlockFailed : PySem.W.findIn K (.ref C_BlockFailed) "__init__" = some (some (.ref f_BlockFailed_init))) (xt_BlockFailed : PySem.W.typeIn K (.ref f_BlockFailed_init) = some (.type "function")) (xf_BlockFailed : xfB K C_BlockFailed = true)
    (nx_BlockFailed_block : PySem.W.findIn K (.ref C_BlockFailed) "block" = some none)
    (aC_NotClear : PySem.W.nsIn K mainGlobals "NotClear" = some (some (.ref C_NotClear)))
    (xl_NotClear : K.lookup C_NotClear = some (excClassObj nm_NotClear q_NotClear C_NotClear N_NotClear bs_NotClear bm_NotClear true sn_NotClear sub_NotClear ab_NotClear col_NotClear dd_NotClear k0_NotClear k1_NotClear k2_NotClear k3_NotClear k5_NotClear "ValueError.__new__")) (rv_NotClear : PySem.HandSPX.refsVE bm_NotClear = true)
    (xs_NotClear : PySem.W.findIn K (.ref C_NotClear) "__setattr__" = some (some (.builtin "object.__setattr__"))) (xr_NotClear : PySem.W.subIn K (.ref C_NotClear) (.type "BaseException") = some true) (xy_NotClear : PySem.W.typeIn K (.ref C_NotClear) = some (.type "type")) (xk_NotClear : PySem.W.keepIn K (.ref C_NotClear) = true)
    (xi_NotClear : PySem.W.findIn K (.ref C_NotClear) "__init__" = some (some (.ref f_NotClear_init))) (xt_NotClear : PySem.W.typeIn K (.ref f_NotClear_init) = some (.type "function")) (xf_NotClear : xfB K C_NotClear = true)
    (nx_NotClear_page : PySem.W.findIn K (.ref C_NotClear) "page" = some none)
    (aC_NoValue : PySem.W.nsIn K mainGlobals "NoValue" = some (some (.ref C_NoValue)))
    (xq_NoValue : PySem.W.excIn K C_NoValue [.type "ValueError", .type "Exception", .type "BaseException", .type "object"] "ValueError.__new__" = true) (xk_NoValue : PySem.W.keepIn K (.ref C_NoValue) = true) (xr_NoValue : PySem.W.subIn K (.ref C_NoValue) (.type "BaseException") = some true) (xt_NoValue : PySem.W.typeIn K (.ref C_NoValue) = some (.type "type"))
    (wa_WornError : PySem.W.specialIn K (.ref C_WornError) "__getattribute__" = some (some (.builtin "type.__getattribute__"))) (wr_WornError : PySem.W.readsIn K C_WornError (.type "type") = true) (wf_WornError : PySem.W.findCls K (.ref C_WornError) (.type "type") "__init__" = some (.val (.builtin "ValueError.__init__")))
    (em_NoChip_NoPlace : PySem.W.exmOne K (.ref C_NoChip) (.ref C_NoPlace) = some false)
    (em_NoChip_PowerGone : PySem.W.exmOne K (.ref C_NoChip) (.ref C_PowerGone) = some false)
    (em_NoChip_BlockFailed : PySem.W.exmOne K (.ref C_NoChip) (.ref C_BlockFailed) = some false)
    (em_NoChip_NotClear : PySem.W.exmOne K (.ref C_NoChip) (.ref C_NotClear) = some false)
    (em_NoPlace_NoPlace : PySem.W.exmOne K (.ref C_NoPlace) (.ref C_NoPlace) = some true)
    (em_NoPlace_PowerGone : PySem.W.exmOne K (.ref C_NoPlace) (.ref C_PowerGone) = some false)
    (em_NoPlace_BlockFailed : PySem.W.exmOne K (.ref C_NoPlace) (.ref C_BlockFailed) = some false)
    (em_NoPlace_NotClear : PySem.W.exmOne K (.ref C_NoPlace) (.ref C_NotClear) = some false)
    (em_PowerGone_NoPlace : PySem.W.exmOne K (.ref C_PowerGone) (.ref C_NoPlace) = some false)
    (em_PowerGone_PowerGone : PySem.W.exmOne K (.ref C_PowerGone) (.ref C_PowerGone) = some true)
    (em_PowerGone_BlockFailed : PySem.W.exmOne K (.ref C_PowerGone) (.ref C_BlockFailed) = some false)
    (em_PowerGone_NotClear : PySem.W.exmOne K (.ref C_PowerGone) (.ref C_NotClear) = some false)
    (em_BlockFailed_NoPlace : PySem.W.exmOne K (.ref C_BlockFailed) (.ref C_NoPlace) = some false)
    (em_BlockFailed_PowerGone : PySem.W.exmOne K (.ref C_BlockFailed) (.ref C_PowerGone) = some false)
    (em_BlockFailed_BlockFailed : PySem.W.exmOne K (.ref C_BlockFailed) (.ref C_BlockFailed) = some true)
    (em_BlockFailed_NotClear : PySem.W.exmOne K (.ref C_BlockFailed) (.ref C_NotClear) = some false)
    (em_NotClear_NoPlace : PySem.W.exmOne K (.ref C_NotClear) (.ref C_NoPlace) = some false)
    (em_NotClear_PowerGone : PySem.W.exmOne K (.ref C_NotClear) (.ref C_PowerGone) = some false)
    (em_NotClear_BlockFailed : PySem.W.exmOne K (.ref C_NotClear) (.ref C_BlockFailed) = some false)
    (em_NotClear_NotClear : PySem.W.exmOne K (.ref C_NotClear) (.ref C_NotClear) = some true)
    (em_NoValue_NoPlace : PySem.W.exmOne K (.ref C_NoValue) (.ref C_NoPlace) = some false)
    (em_NoValue_PowerGone : PySem.W.exmOne K (.ref C_NoValue) (.ref C_PowerGone) = some false)
    (em_NoValue_BlockFailed : PySem.W.exmOne K (.ref C_NoValue) (.ref C_BlockFailed) = some false)
    (em_NoValue_NotClear : PySem.W.exmOne K (.ref C_NoValue) (.ref C_NotClear) = some false)
    (z_len : PySem.W.nsIn K mainGlobals "len" = some none)
    (z_isinstance : PySem.W.nsIn K mainGlobals "isinstance" = some none)
    (z_min : PySem.W.nsIn K mainGlobals "min" = some none)
    (z_int : PySem.W.nsIn K mainGlobals "int" = some none)
    (z_str : PySem.W.nsIn K mainGlobals "str" = some none)
    (z_list : PySem.W.nsIn K mainGlobals "list" = some none)
    (z_tuple : PySem.W.nsIn K mainGlobals "tuple" = some none)
    (z_bool : PySem.W.nsIn K mainGlobals "bool" = some none)
    (z_range : PySem.W.nsIn K mainGlobals "range" = some none)
    (z_ValueError : PySem.W.nsIn K mainGlobals "ValueError" = some none)
    (v_MANY : PySem.W.nsIn K mainGlobals "MANY" = some (some (Value.int (16) t_MANY)))
    (v_MOST : PySem.W.nsIn K mainGlobals "MOST" = some (some (Value.int (1000000) t_MOST))) :
    ∃ fd : FuncData, (∀ (s : Shared) (v : Value), BindsTo s fd ⟨[v], []⟩ [("_law_script", v)]) ∧ ∀ base : Heap, K.In base → base.Ns mainGlobals mg → FnOk l.prog w K mg base (L2.CX l.prog w) 8 fa fd ["_law_script"] (spLaw K) := by
  have e := hfa.symm.trans (PySem.W.mg_of X G a_law)
  cases e
  have F_BlockFailed_init := fun_mk (st := s_BlockFailed_init) l_BlockFailed_init c_BlockFailed_init k_BlockFailed_init
  have b_BlockFailed_init := F_BlockFailed_init.binds (ps := ["self", "block"]) fun _ _ _ _ _ _ us hl => match us, hl with | [_, _], _ => rfl
  have F_NotClear_init := fun_mk (st := s_NotClear_init) l_NotClear_init c_NotClear_init k_NotClear_init
  have b_NotClear_init := F_NotClear_init.binds (ps := ["self", "page"]) fun _ _ _ _ _ _ us hl => match us, hl with | [_, _], _ => rfl
  have F_is_whole := fun_mk (st := s_is_whole) l_is_whole c_is_whole k_is_whole
  have b_is_whole := F_is_whole.binds (ps := ["thing"]) fun _ _ _ _ _ _ us hl => match us, hl with | [_], _ => rfl
  have F_is_within := fun_mk (st := s_is_within) l_is_within c_is_within k_is_within
  have b_is_within := F_is_within.binds (ps := ["thing", "low", "high"]) fun _ _ _ _ _ _ us hl => match us, hl with | [_, _, _], _ => rfl
  have F_endurance := fun_mk (st := s_endurance) l_endurance c_endurance k_endurance
  have b_endurance := F_endurance.binds (ps := ["blocks", "ills"]) fun _ _ _ _ _ _ us hl => match us, hl with | [_, _], _ => rfl
  have F_Chip_init : FunD K "__init__" "Chip.__init__" (defArgs s_Chip_init) (defBody s_Chip_init) (defScope s_Chip_init) dfl_Chip_init [] f_Chip_init _ := ⟨⟨_, _, _, _, _, _, _, _, _, _, rfl, l_Chip_init, c_Chip_init, He.dflB_ok df_Chip_init, .inl rfl⟩, k_Chip_init⟩
  obtain ⟨ds0_Chip_init, dv0_Chip_init, bd0_Chip_init⟩ := F_Chip_init.binds1 (ps := ["self", "blocks", "pages", "most", "ills"]) 5 2 (fun z => by cases z) (by rfl) fun T kV doc pm an cdv ct us its h1 h2 => match us, its, h1, h2 with | [_, _, _, _, _], [_, _], _, _ => ⟨_, rfl, rfl⟩
  obtain ⟨ds2_Chip_init, dv2_Chip_init, bd2_Chip_init⟩ := F_Chip_init.binds1 (ps := ["self", "blocks", "pages", "most", "ills"]) 3 0 (fun z => by cases z) (by rfl) fun T kV doc pm an cdv ct us its h1 h2 => match us, its, h1, h2 with | [_, _, _], [_, _], _, _ => ⟨_, rfl, rfl⟩
  obtain ⟨ds1_Chip_init, dv1_Chip_init, bd1_Chip_init⟩ := F_Chip_init.binds1 (ps := ["self", "blocks", "pages", "most", "ills"]) 4 1 (fun z => by cases z) (by rfl) fun T kV doc pm an cdv ct us its h1 h2 => match us, its, h1, h2 with | [_, _, _, _], [_, _], _, _ => ⟨_, rfl, rfl⟩
  have F_Chip_need_page := fun_mk (st := s_Chip_need_page) l_Chip_need_page c_Chip_need_page k_Chip_need_page
  have b_Chip_need_page := F_Chip_need_page.binds (ps := ["self", "page"]) fun _ _ _ _ _ _ us hl => match us, hl with | [_, _], _ => rfl
  have F_Chip_need_block := fun_mk (st := s_Chip_need_block) l_Chip_need_block c_Chip_need_block k_Chip_need_block
  have b_Chip_need_block := F_Chip_need_block.binds (ps := ["self", "block"]) fun _ _ _ _ _ _ us hl => match us, hl with | [_, _], _ => rfl
  have F_Chip_need_power := fun_mk (st := s_Chip_need_power) l_Chip_need_power c_Chip_need_power k_Chip_need_power
  have b_Chip_need_power := F_Chip_need_power.binds (ps := ["self"]) fun _ _ _ _ _ _ us hl => match us, hl with | [_], _ => rfl
  have F_Chip_need_good := fun_mk (st := s_Chip_need_good) l_Chip_need_good c_Chip_need_good k_Chip_need_good
  have b_Chip_need_good := F_Chip_need_good.binds (ps := ["self", "block"]) fun _ _ _ _ _ _ us hl => match us, hl with | [_, _], _ => rfl
  have F_Chip_goes_well := fun_mk (st := s_Chip_goes_well) l_Chip_goes_well c_Chip_goes_well k_Chip_goes_well
  have b_Chip_goes_well := F_Chip_goes_well.binds (ps := ["self", "block", "worn"]) fun _ _ _ _ _ _ us hl => match us, hl with | [_, _, _], _ => rfl
  have F_Chip_put := fun_mk (st := s_Chip_put) l_Chip_put c_Chip_put k_Chip_put
  have b_Chip_put := F_Chip_put.binds (ps := ["self", "page", "stuff"]) fun _ _ _ _ _ _ us hl => match us, hl with | [_, _, _], _ => rfl
  have F_Chip_wipe := fun_mk (st := s_Chip_wipe) l_Chip_wipe c_Chip_wipe k_Chip_wipe
  have b_Chip_wipe := F_Chip_wipe.binds (ps := ["self", "block"]) fun _ _ _ _ _ _ us hl => match us, hl with | [_, _], _ => rfl
  have F_Chip_read := fun_mk (st := s_Chip_read) l_Chip_read c_Chip_read k_Chip_read
  have b_Chip_read := F_Chip_read.binds (ps := ["self", "page"]) fun _ _ _ _ _ _ us hl => match us, hl with | [_, _], _ => rfl
  have F_Chip_cut_after := fun_mk (st := s_Chip_cut_after) l_Chip_cut_after c_Chip_cut_after k_Chip_cut_after
  have b_Chip_cut_after := F_Chip_cut_after.binds (ps := ["self", "deeds"]) fun _ _ _ _ _ _ us hl => match us, hl with | [_, _], _ => rfl
  have F_Chip_power_on := fun_mk (st := s_Chip_power_on) l_Chip_power_on c_Chip_power_on k_Chip_power_on
  have b_Chip_power_on := F_Chip_power_on.binds (ps := ["self"]) fun _ _ _ _ _ _ us hl => match us, hl with | [_], _ => rfl
  have F_Chip_is_dark := fun_mk (st := s_Chip_is_dark) l_Chip_is_dark c_Chip_is_dark k_Chip_is_dark
  have b_Chip_is_dark := F_Chip_is_dark.binds (ps := ["self"]) fun _ _ _ _ _ _ us hl => match us, hl with | [_], _ => rfl
  have F_Chip_cleared := fun_mk (st := s_Chip_cleared) l_Chip_cleared c_Chip_cleared k_Chip_cleared
  have b_Chip_cleared := F_Chip_cleared.binds (ps := ["self", "block"]) fun _ _ _ _ _ _ us hl => match us, hl with | [_, _], _ => rfl
  have F_Chip_failed := fun_mk (st := s_Chip_failed) l_Chip_failed c_Chip_failed k_Chip_failed
  have b_Chip_failed := F_Chip_failed.binds (ps := ["self", "block"]) fun _ _ _ _ _ _ us hl => match us, hl with | [_, _], _ => rfl
  have F_Chip_deeds := fun_mk (st := s_Chip_deeds) l_Chip_deeds c_Chip_deeds k_Chip_deeds
  have b_Chip_deeds := F_Chip_deeds.binds (ps := ["self"]) fun _ _ _ _ _ _ us hl => match us, hl with | [_], _ => rfl
  have F__law_cell_at := fun_mk (st := s__law_cell_at) l__law_cell_at c__law_cell_at k__law_cell_at
  have b__law_cell_at := F__law_cell_at.binds (ps := ["_law_script", "_law_k"]) fun _ _ _ _ _ _ us hl => match us, hl with | [_, _], _ => rfl
  have F__law_mix := fun_mk (st := s__law_mix) l__law_mix c__law_mix k__law_mix
  have b__law_mix := F__law_mix.binds (ps := ["_law_cell", "_law_k"]) fun _ _ _ _ _ _ us hl => match us, hl with | [_, _], _ => rfl
  have F__law_put := fun_mk (st := s__law_put) l__law_put c__law_put k__law_put
  have b__law_put := F__law_put.binds (ps := ["_law_chip_here", "_law_page", "_law_stuff"]) fun _ _ _ _ _ _ us hl => match us, hl with | [_, _, _], _ => rfl
  have F__law_wipe := fun_mk (st := s__law_wipe) l__law_wipe c__law_wipe k__law_wipe
  have b__law_wipe := F__law_wipe.binds (ps := ["_law_chip_here", "_law_block"]) fun _ _ _ _ _ _ us hl => match us, hl with | [_, _], _ => rfl
  have F__law_read := fun_mk (st := s__law_read) l__law_read c__law_read k__law_read
  have b__law_read := F__law_read.binds (ps := ["_law_chip_here", "_law_page"]) fun _ _ _ _ _ _ us hl => match us, hl with | [_, _], _ => rfl
  have F__law_deed := fun_mk (st := s__law_deed) l__law_deed c__law_deed k__law_deed
  have b__law_deed := F__law_deed.binds (ps := ["_law_mine_here", "_law_word", "_law_at", "_law_block"]) fun _ _ _ _ _ _ us hl => match us, hl with | [_, _, _, _], _ => rfl
  have F__law_due_put := fun_mk (st := s__law_due_put) l__law_due_put c__law_due_put k__law_due_put
  have b__law_due_put := F__law_due_put.binds (ps := ["_law_mine_here", "_law_page", "_law_stuff"]) fun _ _ _ _ _ _ us hl => match us, hl with | [_, _, _], _ => rfl
  have F__law_due_wipe := fun_mk (st := s__law_due_wipe) l__law_due_wipe c__law_due_wipe k__law_due_wipe
  have b__law_due_wipe := F__law_due_wipe.binds (ps := ["_law_mine_here", "_law_block"]) fun _ _ _ _ _ _ us hl => match us, hl with | [_, _], _ => rfl
  have F__law_due_read := fun_mk (st := s__law_due_read) l__law_due_read c__law_due_read k__law_due_read
  have b__law_due_read := F__law_due_read.binds (ps := ["_law_mine_here", "_law_page"]) fun _ _ _ _ _ _ us hl => match us, hl with | [_, _], _ => rfl
  have F__law_step := fun_mk (st := s__law_step) l__law_step c__law_step k__law_step
  have b__law_step := F__law_step.binds (ps := ["_law_chip_here", "_law_mine_here", "_law_cell", "_law_k"]) fun _ _ _ _ _ _ us hl => match us, hl with | [_, _, _, _], _ => rfl
  have F__law_ills := fun_mk (st := s__law_ills) l__law_ills c__law_ills k__law_ills
  have b__law_ills := F__law_ills.binds (ps := ["_law_cell", "_law_blocks"]) fun _ _ _ _ _ _ us hl => match us, hl with | [_, _], _ => rfl
  have F__law_end := fun_mk (st := s__law_end) l__law_end c__law_end k__law_end
  have b__law_end := F__law_end.binds (ps := ["_law_chip_here", "_law_mine_here"]) fun _ _ _ _ _ _ us hl => match us, hl with | [_, _], _ => rfl
  have F__law_chip := fun_mk (st := s__law_chip) l__law_chip c__law_chip k__law_chip
  have b__law_chip := F__law_chip.binds (ps := ["_law_blocks", "_law_pages", "_law_ills_here", "_law_most"]) fun _ _ _ _ _ _ us hl => match us, hl with | [_, _, _, _], _ => rfl
  have F__law_mine := fun_mk (st := s__law_mine) l__law_mine c__law_mine k__law_mine
  have b__law_mine := F__law_mine.binds (ps := ["_law_blocks", "_law_pages", "_law_ills_here", "_law_most"]) fun _ _ _ _ _ _ us hl => match us, hl with | [_, _, _, _], _ => rfl
  have F_law := fun_mk (st := s_law) l_law c_law k_law
  have b_law := F_law.binds (ps := ["_law_script"]) fun _ _ _ _ _ _ us hl => match us, hl with | [_], _ => rfl
  have xo_BlockFailed : OexC K C_BlockFailed := ⟨⟨_, _, _, _, _, _, _, _, _, _, _, _, _, _, _, xl_BlockFailed, rv_BlockFailed⟩, xs_BlockFailed, xr_BlockFailed, xy_BlockFailed, xk_BlockFailed⟩
  have xo_NotClear : OexC K C_NotClear := ⟨⟨_, _, _, _, _, _, _, _, _, _, _, _, _, _, _, xl_NotClear, rv_NotClear⟩, xs_NotClear, xr_NotClear, xy_NotClear, xk_NotClear⟩
  let T : Txt K mg := {
    a_BlockFailed_init := f_BlockFailed_init
    fd_BlockFailed_init := _
    F_BlockFailed_init := F_BlockFailed_init
    bd_BlockFailed_init := b_BlockFailed_init
    k_BlockFailed_init := k_BlockFailed_init
    a_NotClear_init := f_NotClear_init
    fd_NotClear_init := _
    F_NotClear_init := F_NotClear_init
    bd_NotClear_init := b_NotClear_init
    k_NotClear_init := k_NotClear_init
    a_is_whole := f_is_whole
    fd_is_whole := _
    F_is_whole := F_is_whole
    bd_is_whole := b_is_whole
    k_is_whole := k_is_whole
    g_is_whole := PySem.W.mg_of X G a_is_whole
    a_is_within := f_is_within
    fd_is_within := _
    F_is_within := F_is_within
    bd_is_within := b_is_within
    k_is_within := k_is_within
    g_is_within := PySem.W.mg_of X G a_is_within
    a_endurance := f_endurance
    fd_endurance := _
    F_endurance := F_endurance
    bd_endurance := b_endurance
    k_endurance := k_endurance
    g_endurance := PySem.W.mg_of X G a_endurance
    a_Chip_init := f_Chip_init
    fd_Chip_init := _
    F_Chip_init := F_Chip_init
    k_Chip_init := k_Chip_init
    ds0_Chip_init := ds0_Chip_init, dv0_Chip_init := dv0_Chip_init, bd0_Chip_init := bd0_Chip_init
    ds2_Chip_init := ds2_Chip_init, dv2_Chip_init := dv2_Chip_init, bd2_Chip_init := bd2_Chip_init
    ds1_Chip_init := ds1_Chip_init, dv1_Chip_init := dv1_Chip_init, bd1_Chip_init := bd1_Chip_init
    a_Chip_need_page := f_Chip_need_page
    fd_Chip_need_page := _
    F_Chip_need_page := F_Chip_need_page
    bd_Chip_need_page := b_Chip_need_page
    k_Chip_need_page := k_Chip_need_page
    a_Chip_need_block := f_Chip_need_block
    fd_Chip_need_block := _
    F_Chip_need_block := F_Chip_need_block
    bd_Chip_need_block := b_Chip_need_block
    k_Chip_need_block := k_Chip_need_block
    a_Chip_need_power := f_Chip_need_power
    fd_Chip_need_power := _
    F_Chip_need_power := F_Chip_need_power
    bd_Chip_need_power := b_Chip_need_power
    k_Chip_need_power := k_Chip_need_power
    a_Chip_need_good := f_Chip_need_good
    fd_Chip_need_good := _
    F_Chip_need_good := F_Chip_need_good
    bd_Chip_need_good := b_Chip_need_good
    k_Chip_need_good := k_Chip_need_good
    a_Chip_goes_well := f_Chip_goes_well
    fd_Chip_goes_well := _
    F_Chip_goes_well := F_Chip_goes_well
    bd_Chip_goes_well := b_Chip_goes_well
    k_Chip_goes_well := k_Chip_goes_well
    a_Chip_put := f_Chip_put
    fd_Chip_put := _
    F_Chip_put := F_Chip_put
    bd_Chip_put := b_Chip_put
    k_Chip_put := k_Chip_put
    a_Chip_wipe := f_Chip_wipe
    fd_Chip_wipe := _
    F_Chip_wipe := F_Chip_wipe
    bd_Chip_wipe := b_Chip_wipe
    k_Chip_wipe := k_Chip_wipe
    a_Chip_read := f_Chip_read
    fd_Chip_read := _
    F_Chip_read := F_Chip_read
    bd_Chip_read := b_Chip_read
    k_Chip_read := k_Chip_read
    a_Chip_cut_after := f_Chip_cut_after
    fd_Chip_cut_after := _
    F_Chip_cut_after := F_Chip_cut_after
    bd_Chip_cut_after := b_Chip_cut_after
    k_Chip_cut_after := k_Chip_cut_after
    a_Chip_power_on := f_Chip_power_on
    fd_Chip_power_on := _
    F_Chip_power_on := F_Chip_power_on
    bd_Chip_power_on := b_Chip_power_on
    k_Chip_power_on := k_Chip_power_on
    a_Chip_is_dark := f_Chip_is_dark
    fd_Chip_is_dark := _
    F_Chip_is_dark := F_Chip_is_dark
    bd_Chip_is_dark := b_Chip_is_dark
    k_Chip_is_dark := k_Chip_is_dark
    a_Chip_cleared := f_Chip_cleared
    fd_Chip_cleared := _
    F_Chip_cleared := F_Chip_cleared
    bd_Chip_cleared := b_Chip_cleared
    k_Chip_cleared := k_Chip_cleared
    a_Chip_failed := f_Chip_failed
    fd_Chip_failed := _
    F_Chip_failed := F_Chip_failed
    bd_Chip_failed := b_Chip_failed
    k_Chip_failed := k_Chip_failed
    a_Chip_deeds := f_Chip_deeds
    fd_Chip_deeds := _
    F_Chip_deeds := F_Chip_deeds
    bd_Chip_deeds := b_Chip_deeds
    k_Chip_deeds := k_Chip_deeds
    a__law_cell_at := f__law_cell_at
    fd__law_cell_at := _
    F__law_cell_at := F__law_cell_at
    bd__law_cell_at := b__law_cell_at
    k__law_cell_at := k__law_cell_at
    g__law_cell_at := PySem.W.mg_of X G a__law_cell_at
    a__law_mix := f__law_mix
    fd__law_mix := _
    F__law_mix := F__law_mix
    bd__law_mix := b__law_mix
    k__law_mix := k__law_mix
    g__law_mix := PySem.W.mg_of X G a__law_mix
    a__law_put := f__law_put
    fd__law_put := _
    F__law_put := F__law_put
    bd__law_put := b__law_put
    k__law_put := k__law_put
    g__law_put := PySem.W.mg_of X G a__law_put
    a__law_wipe := f__law_wipe
    fd__law_wipe := _
    F__law_wipe := F__law_wipe
    bd__law_wipe := b__law_wipe
    k__law_wipe := k__law_wipe
    g__law_wipe := PySem.W.mg_of X G a__law_wipe
    a__law_read := f__law_read
    fd__law_read := _
    F__law_read := F__law_read
    bd__law_read := b__law_read
    k__law_read := k__law_read
    g__law_read := PySem.W.mg_of X G a__law_read
    a__law_deed := f__law_deed
    fd__law_deed := _
    F__law_deed := F__law_deed
    bd__law_deed := b__law_deed
    k__law_deed := k__law_deed
    g__law_deed := PySem.W.mg_of X G a__law_deed
    a__law_due_put := f__law_due_put
    fd__law_due_put := _
    F__law_due_put := F__law_due_put
    bd__law_due_put := b__law_due_put
    k__law_due_put := k__law_due_put
    g__law_due_put := PySem.W.mg_of X G a__law_due_put
    a__law_due_wipe := f__law_due_wipe
    fd__law_due_wipe := _
    F__law_due_wipe := F__law_due_wipe
    bd__law_due_wipe := b__law_due_wipe
    k__law_due_wipe := k__law_due_wipe
    g__law_due_wipe := PySem.W.mg_of X G a__law_due_wipe
    a__law_due_read := f__law_due_read
    fd__law_due_read := _
    F__law_due_read := F__law_due_read
    bd__law_due_read := b__law_due_read
    k__law_due_read := k__law_due_read
    g__law_due_read := PySem.W.mg_of X G a__law_due_read
    a__law_step := f__law_step
    fd__law_step := _
    F__law_step := F__law_step
    bd__law_step := b__law_step
    k__law_step := k__law_step
    g__law_step := PySem.W.mg_of X G a__law_step
    a__law_ills := f__law_ills
    fd__law_ills := _
    F__law_ills := F__law_ills
    bd__law_ills := b__law_ills
    k__law_ills := k__law_ills
    g__law_ills := PySem.W.mg_of X G a__law_ills
    a__law_end := f__law_end
    fd__law_end := _
    F__law_end := F__law_end
    bd__law_end := b__law_end
    k__law_end := k__law_end
    g__law_end := PySem.W.mg_of X G a__law_end
    a__law_chip := f__law_chip
    fd__law_chip := _
    F__law_chip := F__law_chip
    bd__law_chip := b__law_chip
    k__law_chip := k__law_chip
    g__law_chip := PySem.W.mg_of X G a__law_chip
    a__law_mine := f__law_mine
    fd__law_mine := _
    F__law_mine := F__law_mine
    bd__law_mine := b__law_mine
    k__law_mine := k__law_mine
    g__law_mine := PySem.W.mg_of X G a__law_mine
    a_law := fa
    fd_law := _
    F_law := F_law
    bd_law := b_law
    k_law := k_law
    C_Chip := C_Chip
    g_Chip := PySem.W.mg_of X G aC_Chip
    cl_Chip := ⟨pg_Chip, hd_Chip, po_Chip, sa_Chip⟩
    na_Chip_blocks := na_Chip_blocks
    na_Chip_pages := na_Chip_pages
    na_Chip_most := na_Chip_most
    na_Chip_lasts := na_Chip_lasts
    na_Chip_stuff := na_Chip_stuff
    na_Chip_tried := na_Chip_tried
    na_Chip_clearings := na_Chip_clearings
    na_Chip_broken := na_Chip_broken
    na_Chip_left := na_Chip_left
    na_Chip_log := na_Chip_log
    mk_Chip := ⟨mi_Chip, at_Chip_init, fn_Chip_init, kc_Chip⟩
    m_Chip_need_page := ⟨at_Chip_need_page, fn_Chip_need_page, k_Chip_need_page⟩
    m_Chip_need_block := ⟨at_Chip_need_block, fn_Chip_need_block, k_Chip_need_block⟩
    m_Chip_need_power := ⟨at_Chip_need_power, fn_Chip_need_power, k_Chip_need_power⟩
    m_Chip_need_good := ⟨at_Chip_need_good, fn_Chip_need_good, k_Chip_need_good⟩
    m_Chip_goes_well := ⟨at_Chip_goes_well, fn_Chip_goes_well, k_Chip_goes_well⟩
    m_Chip_put := ⟨at_Chip_put, fn_Chip_put, k_Chip_put⟩
    m_Chip_wipe := ⟨at_Chip_wipe, fn_Chip_wipe, k_Chip_wipe⟩
    m_Chip_read := ⟨at_Chip_read, fn_Chip_read, k_Chip_read⟩
    m_Chip_cut_after := ⟨at_Chip_cut_after, fn_Chip_cut_after, k_Chip_cut_after⟩
    m_Chip_power_on := ⟨at_Chip_power_on, fn_Chip_power_on, k_Chip_power_on⟩
    m_Chip_is_dark := ⟨at_Chip_is_dark, fn_Chip_is_dark, k_Chip_is_dark⟩
    m_Chip_cleared := ⟨at_Chip_cleared, fn_Chip_cleared, k_Chip_cleared⟩
    m_Chip_failed := ⟨at_Chip_failed, fn_Chip_failed, k_Chip_failed⟩
    m_Chip_deeds := ⟨at_Chip_deeds, fn_Chip_deeds, k_Chip_deeds⟩
    C_WornError := C_WornError
    g_WornError := PySem.W.mg_of X G aC_WornError
    xc_WornError := ⟨xq_WornError, xk_WornError, xr_WornError, xt_WornError⟩
    C_NoChip := C_NoChip
    g_NoChip := PySem.W.mg_of X G aC_NoChip
    xc_NoChip := ⟨xq_NoChip, xk_NoChip, xr_NoChip, xt_NoChip⟩
    C_NoPlace := C_NoPlace
    g_NoPlace := PySem.W.mg_of X G aC_NoPlace
    xc_NoPlace := ⟨xq_NoPlace, xk_NoPlace, xr_NoPlace, xt_NoPlace⟩
    C_PowerGone := C_PowerGone
    g_PowerGone := PySem.W.mg_of X G aC_PowerGone
    xc_PowerGone := ⟨xq_PowerGone, xk_PowerGone, xr_PowerGone, xt_PowerGone⟩
    C_BlockFailed := C_BlockFailed
    g_BlockFailed := PySem.W.mg_of X G aC_BlockFailed
    xi_BlockFailed := ⟨xo_BlockFailed, xi_BlockFailed, xt_BlockFailed, xfB_ok xf_BlockFailed⟩
    nx_BlockFailed_block := nx_BlockFailed_block
    C_NotClear := C_NotClear
    g_NotClear := PySem.W.mg_of X G aC_NotClear
    xi_NotClear := ⟨xo_NotClear, xi_NotClear, xt_NotClear, xfB_ok xf_NotClear⟩
    nx_NotClear_page := nx_NotClear_page
    C_NoValue := C_NoValue
    g_NoValue := PySem.W.mg_of X G aC_NoValue
    xc_NoValue := ⟨xq_NoValue, xk_NoValue, xr_NoValue, xt_NoValue⟩
    wi_WornError := ⟨wa_WornError, wr_WornError, wf_WornError⟩
    em_NoChip_NoPlace := em_NoChip_NoPlace
    em_NoChip_PowerGone := em_NoChip_PowerGone
    em_NoChip_BlockFailed := em_NoChip_BlockFailed
    em_NoChip_NotClear := em_NoChip_NotClear
    em_NoPlace_NoPlace := em_NoPlace_NoPlace
    em_NoPlace_PowerGone := em_NoPlace_PowerGone
    em_NoPlace_BlockFailed := em_NoPlace_BlockFailed
    em_NoPlace_NotClear := em_NoPlace_NotClear
    em_PowerGone_NoPlace := em_PowerGone_NoPlace
    em_PowerGone_PowerGone := em_PowerGone_PowerGone
    em_PowerGone_BlockFailed := em_PowerGone_BlockFailed
    em_PowerGone_NotClear := em_PowerGone_NotClear
    em_BlockFailed_NoPlace := em_BlockFailed_NoPlace
    em_BlockFailed_PowerGone := em_BlockFailed_PowerGone
    em_BlockFailed_BlockFailed := em_BlockFailed_BlockFailed
    em_BlockFailed_NotClear := em_BlockFailed_NotClear
    em_NotClear_NoPlace := em_NotClear_NoPlace
    em_NotClear_PowerGone := em_NotClear_PowerGone
    em_NotClear_BlockFailed := em_NotClear_BlockFailed
    em_NotClear_NotClear := em_NotClear_NotClear
    em_NoValue_NoPlace := em_NoValue_NoPlace
    em_NoValue_PowerGone := em_NoValue_PowerGone
    em_NoValue_BlockFailed := em_NoValue_BlockFailed
    em_NoValue_NotClear := em_NoValue_NotClear
    b_len := PySem.W.mg_none_of X G z_len
    b_isinstance := PySem.W.mg_none_of X G z_isinstance
    b_min := PySem.W.mg_none_of X G z_min
    b_int := PySem.W.mg_none_of X G z_int
    b_str := PySem.W.mg_none_of X G z_str
    b_list := PySem.W.mg_none_of X G z_list
    b_tuple := PySem.W.mg_none_of X G z_tuple
    b_bool := PySem.W.mg_none_of X G z_bool
    b_range := PySem.W.mg_none_of X G z_range
    b_ValueError := PySem.W.mg_none_of X G z_ValueError
    u_MANY := _
    g_MANY := PySem.W.mg_of X G v_MANY
    r_MANY := ⟨_, rfl⟩
    u_MOST := _
    g_MOST := PySem.W.mg_of X G v_MOST
    r_MOST := ⟨_, rfl⟩ }
  exact ⟨T.fd_law, fun s v => .of_eq rfl, fun base _ _ => ok_law T⟩
theorem walk {l : PySem.W.OpenLaw} {q : Program} {loose : List Str} {XP : (Str → Option Value) → Heap → Prop} {YP : World → Heap → Prop} {d : DefRec} {K : Params → PySem.W.Frag} (hn : l.most = some 63) (hdf : d.params.defaults = [])
    (hY : ∀ (w : World) (h : Heap), YP w h → (K w.params).In h)
    (F : ∀ (w : World) (mg : Str → Option Value) (fa : Addr) (h : Heap), (K w.params).In h → h.Ns mainGlobals mg → mg d.name = some (.ref fa) →
      ∃ fd : FuncData, (∀ (s : Shared) (u : Value), BindsTo s fd ⟨[u], []⟩ [("_law_script", u)]) ∧ ∀ base : Heap, (K w.params).In base → base.Ns mainGlobals mg → FnOk l.prog w (K w.params) mg base (L2.CX l.prog w) 8 fa fd ["_law_script"] (spLaw (K w.params))) :
    PySem.W.WalkO q loose XP YP l.row.toRowW d [] (fun f vs => PySem.call f vs) :=
  L2.walk_of (n := 63) (k := 8) (x := "_law_script") (CX := fun w => L2.CX l.prog w) (sp := fun w => spLaw (K w.params)) hn (by decide) hdf ⟨rfl, by decide, by decide⟩ hY F (fun _ _ a ns hl _ hS => ⟨a, ns, rfl, hS, hl, fun _ => rfl⟩) (fun _ _ _ _ _ z => by
    obtain ⟨_, _, _, _, _, _, _, _, _, _, _, _, z⟩ := z
    exact z.elim)
end My
open PySem PySem.W PyProof.Rows
set_option maxRecDepth 100000 in
set_option maxHeartbeats 0 in
set_option pp.maxSteps 300 in
theorem PySem.Challenge.cw_wornpages_k08_whole_chip_holds : PySem.Challenge.rw_wornpages_k08_whole_chip.Holds := by
  w_on; o_law; k_head; (case hw => w_witness2)
  k_fill
  refine My.walk (l := PySem.Challenge.rw_wornpages_k08_whole_chip) rfl rfl (fun w h Y => PySem.W.kIn_of Y) ?F
  case F =>
    intro w mg fa h KX G hmg
    refine' My.all_mk KX G hmg ?l_BlockFailed_init ?c_BlockFailed_init ?k_BlockFailed_init ?l_NotClear_init ?c_NotClear_init ?k_NotClear_init ?a_is_whole ?l_is_whole ?c_is_whole ?k_is_whole ?a_is_within ?l_is_within ?c_is_within ?k_is_within ?a_endurance ?l_endurance ?c_endurance ?k_endurance ?l_Chip_init ?c_Chip_init ?k_Chip_init ?df_Chip_init ?l_Chip_need_page ?c_Chip_need_page ?k_Chip_need_page ?l_Chip_need_block ?c_Chip_need_block ?k_Chip_need_block ?l_Chip_need_power ?c_Chip_need_power ?k_Chip_need_power ?l_Chip_need_good ?c_Chip_need_good ?k_Chip_need_good ?l_Chip_goes_well ?c_Chip_goes_well ?k_Chip_goes_well ?l_Chip_put ?c_Chip_put ?k_Chip_put ?l_Chip_wipe ?c_Chip_wipe ?k_Chip_wipe ?l_Chip_read ?c_Chip_read ?k_Chip_read ?l_Chip_cut_after ?c_Chip_cut_after ?k_Chip_cut_after ?l_Chip_power_on ?c_Chip_power_on ?k_Chip_power_on ?l_Chip_is_dark ?c_Chip_is_dark ?k_Chip_is_dark ?l_Chip_cleared ?c_Chip_cleared ?k_Chip_cleared ?l_Chip_failed ?c_Chip_failed ?k_Chip_failed ?l_Chip_deeds ?c_Chip_deeds ?k_Chip_deeds ?a__law_cell_at ?l__law_cell_at ?c__law_cell_at ?k__law_cell_at ?a__law_mix ?l__law_mix ?c__law_mix ?k__law_mix ?a__law_put ?l__law_put ?c__law_put ?k__law_put ?a__law_wipe ?l__law_wipe ?c__law_wipe ?k__law_wipe ?a__law_read ?l__law_read ?c__law_read ?k__law_read ?a__law_deed ?l__law_deed ?c__law_deed ?k__law_deed ?a__law_due_put ?l__law_due_put ?c__law_due_put ?k__law_due_put ?a__law_due_wipe ?l__law_due_wipe ?c__law_due_wipe ?k__law_due_wipe ?a__law_due_read ?l__law_due_read ?c__law_due_read ?k__law_due_read ?a__law_step ?l__law_step ?c__law_step ?k__law_step ?a__law_ills ?l__law_ills ?c__law_ills ?k__law_ills ?a__law_end ?l__law_end ?c__law_end ?k__law_end ?a__law_chip ?l__law_chip ?c__law_chip ?k__law_chip ?a__law_mine ?l__law_mine ?c__law_mine ?k__law_mine ?a_law ?l_law ?c_law ?k_law ?aC_Chip ?pg_Chip ?hd_Chip ?po_Chip ?sa_Chip ?na_Chip_blocks ?na_Chip_pages ?na_Chip_most ?na_Chip_lasts ?na_Chip_stuff ?na_Chip_tried ?na_Chip_clearings ?na_Chip_broken ?na_Chip_left ?na_Chip_log ?at_Chip_init ?fn_Chip_init ?mi_Chip ?kc_Chip ?at_Chip_need_page ?fn_Chip_need_page ?at_Chip_need_block ?fn_Chip_need_block ?at_Chip_need_power ?fn_Chip_need_power ?at_Chip_need_good ?fn_Chip_need_good ?at_Chip_goes_well ?fn_Chip_goes_well ?at_Chip_put ?fn_Chip_put ?at_Chip_wipe ?fn_Chip_wipe ?at_Chip_read ?fn_Chip_read ?at_Chip_cut_after ?fn_Chip_cut_after ?at_Chip_power_on ?fn_Chip_power_on ?at_Chip_is_dark ?fn_Chip_is_dark ?at_Chip_cleared ?fn_Chip_cleared ?at_Chip_failed ?fn_Chip_failed ?at_Chip_deeds ?fn_Chip_deeds ?aC_WornError ?xq_WornError ?xk_WornError ?xr_WornError ?xt_WornError ?aC_NoChip ?xq_NoChip ?xk_NoChip ?xr_NoChip ?xt_NoChip ?aC_NoPlace ?xq_NoPlace ?xk_NoPlace ?xr_NoPlace ?xt_NoPlace ?aC_PowerGone ?xq_PowerGone ?xk_PowerGone ?xr_PowerGone ?xt_PowerGone ?aC_BlockFailed ?xl_BlockFailed ?rv_BlockFailed ?xs_BlockFailed ?xr_BlockFailed ?xy_BlockFailed ?xk_BlockFailed ?xi_BlockFailed ?xt_BlockFailed ?xf_BlockFailed ?nx_BlockFailed_block ?aC_NotClear ?xl_NotClear ?rv_NotClear ?xs_NotClear ?xr_NotClear ?xy_NotClear ?xk_NotClear ?xi_NotClear ?xt_NotClear ?xf_NotClear ?nx_NotClear_page ?aC_NoValue ?xq_NoValue ?xk_NoValue ?xr_NoValue ?xt_NoValue ?wa_WornError ?wr_WornError ?wf_WornError ?em_NoChip_NoPlace ?em_NoChip_PowerGone ?em_NoChip_BlockFailed ?em_NoChip_NotClear ?em_NoPlace_NoPlace ?em_NoPlace_PowerGone ?em_NoPlace_BlockFailed ?em_NoPlace_NotClear ?em_PowerGone_NoPlace ?em_PowerGone_PowerGone ?em_PowerGone_BlockFailed ?em_PowerGone_NotClear ?em_BlockFailed_NoPlace ?em_BlockFailed_PowerGone ?em_BlockFailed_BlockFailed ?em_BlockFailed_NotClear ?em_NotClear_NoPlace ?em_NotClear_PowerGone ?em_NotClear_BlockFailed ?em_NotClear_NotClear ?em_NoValue_NoPlace ?em_NoValue_PowerGone ?em_NoValue_BlockFailed ?em_NoValue_NotClear ?z_len ?z_isinstance ?z_min ?z_int ?z_str ?z_list ?z_tuple ?z_bool ?z_range ?z_ValueError ?v_MANY ?v_MOST
    (case aC_Chip => k_is)
    (case aC_WornError => k_is)
    (case aC_NoChip => k_is)
    (case aC_NoPlace => k_is)
    (case aC_PowerGone => k_is)
    (case aC_BlockFailed => k_is)
    (case aC_NotClear => k_is)
    (case aC_NoValue => k_is)
    (case at_Chip_init => k_is)
    (case at_Chip_need_page => k_is)
    (case at_Chip_need_block => k_is)
    (case at_Chip_need_power => k_is)
    (case at_Chip_need_good => k_is)
    (case at_Chip_goes_well => k_is)
    (case at_Chip_put => k_is)
    (case at_Chip_wipe => k_is)
    (case at_Chip_read => k_is)
    (case at_Chip_cut_after => k_is)
    (case at_Chip_power_on => k_is)
    (case at_Chip_is_dark => k_is)
    (case at_Chip_cleared => k_is)
    (case at_Chip_failed => k_is)
    (case at_Chip_deeds => k_is)
    (case xi_BlockFailed => k_is)
    (case xi_NotClear => k_is)
    (case l_BlockFailed_init => k_is)
    (case c_BlockFailed_init => k_is)
    (case k_BlockFailed_init => k_is)
    (case l_NotClear_init => k_is)
    (case c_NotClear_init => k_is)
    (case k_NotClear_init => k_is)
    (case a_is_whole => k_is)
    (case l_is_whole => k_is)
    (case c_is_whole => k_is)
    (case k_is_whole => k_is)
    (case a_is_within => k_is)
    (case l_is_within => k_is)
    (case c_is_within => k_is)
    (case k_is_within => k_is)
    (case a_endurance => k_is)
    (case l_endurance => k_is)
    (case c_endurance => k_is)
    (case k_endurance => k_is)
    (case l_Chip_init => k_is)
    (case c_Chip_init => k_is)
    (case k_Chip_init => k_is)
    (case df_Chip_init => kernel_rfl)
    (case l_Chip_need_page => k_is)
    (case c_Chip_need_page => k_is)
    (case k_Chip_need_page => k_is)
    (case l_Chip_need_block => k_is)
    (case c_Chip_need_block => k_is)
    (case k_Chip_need_block => k_is)
    (case l_Chip_need_power => k_is)
    (case c_Chip_need_power => k_is)
    (case k_Chip_need_power => k_is)
    (case l_Chip_need_good => k_is)
    (case c_Chip_need_good => k_is)
    (case k_Chip_need_good => k_is)
    (case l_Chip_goes_well => k_is)
    (case c_Chip_goes_well => k_is)
    (case k_Chip_goes_well => k_is)
    (case l_Chip_put => k_is)
    (case c_Chip_put => k_is)
    (case k_Chip_put => k_is)
    (case l_Chip_wipe => k_is)
    (case c_Chip_wipe => k_is)
    (case k_Chip_wipe => k_is)
    (case l_Chip_read => k_is)
    (case c_Chip_read => k_is)
    (case k_Chip_read => k_is)
    (case l_Chip_cut_after => k_is)
    (case c_Chip_cut_after => k_is)
    (case k_Chip_cut_after => k_is)
    (case l_Chip_power_on => k_is)
    (case c_Chip_power_on => k_is)
    (case k_Chip_power_on => k_is)
    (case l_Chip_is_dark => k_is)
    (case c_Chip_is_dark => k_is)
    (case k_Chip_is_dark => k_is)
    (case l_Chip_cleared => k_is)
    (case c_Chip_cleared => k_is)
    (case k_Chip_cleared => k_is)
    (case l_Chip_failed => k_is)
    (case c_Chip_failed => k_is)
    (case k_Chip_failed => k_is)
    (case l_Chip_deeds => k_is)
    (case c_Chip_deeds => k_is)
    (case k_Chip_deeds => k_is)
    (case a__law_cell_at => k_is)
    (case l__law_cell_at => k_is)
    (case c__law_cell_at => k_is)
    (case k__law_cell_at => k_is)
    (case a__law_mix => k_is)
    (case l__law_mix => k_is)
    (case c__law_mix => k_is)
    (case k__law_mix => k_is)
    (case a__law_put => k_is)
    (case l__law_put => k_is)
    (case c__law_put => k_is)
    (case k__law_put => k_is)
    (case a__law_wipe => k_is)
    (case l__law_wipe => k_is)
    (case c__law_wipe => k_is)
    (case k__law_wipe => k_is)
    (case a__law_read => k_is)
    (case l__law_read => k_is)
    (case c__law_read => k_is)
    (case k__law_read => k_is)
    (case a__law_deed => k_is)
    (case l__law_deed => k_is)
    (case c__law_deed => k_is)
    (case k__law_deed => k_is)
    (case a__law_due_put => k_is)
    (case l__law_due_put => k_is)
    (case c__law_due_put => k_is)
    (case k__law_due_put => k_is)
    (case a__law_due_wipe => k_is)
    (case l__law_due_wipe => k_is)
    (case c__law_due_wipe => k_is)
    (case k__law_due_wipe => k_is)
    (case a__law_due_read => k_is)
    (case l__law_due_read => k_is)
    (case c__law_due_read => k_is)
    (case k__law_due_read => k_is)
    (case a__law_step => k_is)
    (case l__law_step => k_is)
    (case c__law_step => k_is)
    (case k__law_step => k_is)
    (case a__law_ills => k_is)
    (case l__law_ills => k_is)
    (case c__law_ills => k_is)
    (case k__law_ills => k_is)
    (case a__law_end => k_is)
    (case l__law_end => k_is)
    (case c__law_end => k_is)
    (case k__law_end => k_is)
    (case a__law_chip => k_is)
    (case l__law_chip => k_is)
    (case c__law_chip => k_is)
    (case k__law_chip => k_is)
    (case a__law_mine => k_is)
    (case l__law_mine => k_is)
    (case c__law_mine => k_is)
    (case k__law_mine => k_is)
    (case a_law => k_is)
    (case l_law => k_is)
    (case c_law => k_is)
    (case k_law => k_is)
    (case pg_Chip => k_is)
    (case hd_Chip => k_is)
    (case po_Chip => k_is)
    (case sa_Chip => k_is)
    (case na_Chip_blocks => k_is)
    (case na_Chip_pages => k_is)
    (case na_Chip_most => k_is)
    (case na_Chip_lasts => k_is)
    (case na_Chip_stuff => k_is)
    (case na_Chip_tried => k_is)
    (case na_Chip_clearings => k_is)
    (case na_Chip_broken => k_is)
    (case na_Chip_left => k_is)
    (case na_Chip_log => k_is)
    (case fn_Chip_init => k_is)
    (case mi_Chip => k_is)
    (case kc_Chip => k_is)
    (case fn_Chip_need_page => k_is)
    (case fn_Chip_need_block => k_is)
    (case fn_Chip_need_power => k_is)
    (case fn_Chip_need_good => k_is)
    (case fn_Chip_goes_well => k_is)
    (case fn_Chip_put => k_is)
    (case fn_Chip_wipe => k_is)
    (case fn_Chip_read => k_is)
    (case fn_Chip_cut_after => k_is)
    (case fn_Chip_power_on => k_is)
    (case fn_Chip_is_dark => k_is)
    (case fn_Chip_cleared => k_is)
    (case fn_Chip_failed => k_is)
    (case fn_Chip_deeds => k_is)
    (case xq_WornError => k_exc)
    (case xk_WornError => k_is)
    (case xr_WornError => k_is)
    (case xt_WornError => k_is)
    (case xq_NoChip => k_exc)
    (case xk_NoChip => k_is)
    (case xr_NoChip => k_is)
    (case xt_NoChip => k_is)
    (case xq_NoPlace => k_exc)
    (case xk_NoPlace => k_is)
    (case xr_NoPlace => k_is)
    (case xt_NoPlace => k_is)
    (case xq_PowerGone => k_exc)
    (case xk_PowerGone => k_is)
    (case xr_PowerGone => k_is)
    (case xt_PowerGone => k_is)
    (case xl_BlockFailed => k_is)
    (case rv_BlockFailed => kernel_rfl)
    (case xs_BlockFailed => k_is)
    (case xr_BlockFailed => k_is)
    (case xy_BlockFailed => k_is)
    (case xk_BlockFailed => k_is)
    (case xt_BlockFailed => k_is)
    (case xf_BlockFailed => kernel_rfl)
    (case nx_BlockFailed_block => k_is)
    (case xl_NotClear => k_is)
    (case rv_NotClear => kernel_rfl)
    (case xs_NotClear => k_is)
    (case xr_NotClear => k_is)
    (case xy_NotClear => k_is)
    (case xk_NotClear => k_is)
    (case xt_NotClear => k_is)
    (case xf_NotClear => kernel_rfl)
    (case nx_NotClear_page => k_is)
    (case xq_NoValue => k_exc)
    (case xk_NoValue => k_is)
    (case xr_NoValue => k_is)
    (case xt_NoValue => k_is)
    (case wa_WornError => k_is)
    (case wr_WornError => k_is)
    (case wf_WornError => k_is)
    (case em_NoChip_NoPlace => kernel_rfl)
    (case em_NoChip_PowerGone => kernel_rfl)
    (case em_NoChip_BlockFailed => kernel_rfl)
    (case em_NoChip_NotClear => kernel_rfl)
    (case em_NoPlace_NoPlace => kernel_rfl)
    (case em_NoPlace_PowerGone => kernel_rfl)
    (case em_NoPlace_BlockFailed => kernel_rfl)
    (case em_NoPlace_NotClear => kernel_rfl)
    (case em_PowerGone_NoPlace => kernel_rfl)
    (case em_PowerGone_PowerGone => kernel_rfl)
    (case em_PowerGone_BlockFailed => kernel_rfl)
    (case em_PowerGone_NotClear => kernel_rfl)
    (case em_BlockFailed_NoPlace => kernel_rfl)
    (case em_BlockFailed_PowerGone => kernel_rfl)
    (case em_BlockFailed_BlockFailed => kernel_rfl)
    (case em_BlockFailed_NotClear => kernel_rfl)
    (case em_NotClear_NoPlace => kernel_rfl)
    (case em_NotClear_PowerGone => kernel_rfl)
    (case em_NotClear_BlockFailed => kernel_rfl)
    (case em_NotClear_NotClear => kernel_rfl)
    (case em_NoValue_NoPlace => kernel_rfl)
    (case em_NoValue_PowerGone => kernel_rfl)
    (case em_NoValue_BlockFailed => kernel_rfl)
    (case em_NoValue_NotClear => kernel_rfl)
    (case z_len => k_is)
    (case z_isinstance => k_is)
    (case z_min => k_is)
    (case z_int => k_is)
    (case z_str => k_is)
    (case z_list => k_is)
    (case z_tuple => k_is)
    (case z_bool => k_is)
    (case z_range => k_is)
    (case z_ValueError => k_is)
    (case v_MANY => k_is)
    (case v_MOST => k_is)
#print axioms PySem.Challenge.cw_wornpages_k08_whole_chip_holds
