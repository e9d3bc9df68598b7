import PyProof.Rows.All
import Wide.All
import OpenK.AllK
import Wide.FinOn
import HandS.ForMost
import HandS.ForExc
import HandS.Flow
import HandS.Wide
import HandS.WideBits
import HandS.IsInst
import HandS.ExcInit
import HandS.ExcField
import HandS.ExcIs
import HandS.TryMany
import HandS.SetKeys
import HandS.More
import HandS.Deep
import HandS.TupSets
import HandS.SortRule
import HandS.SortInts
import HandS.Walk
import HandS.RevTup
import HandS.Rev
import HandS.Conv
import HandS.WordsDict
import HandS.Style
import HandS.HeadHook2
import HandS.DictTup
import HandS.SortKw
import KE.DataMinMax
import HandS.HotCalls
import HandS.ExcValue
import HandS.Head0
import HandS.Head1
import HandS.Head2
import HandS.HeadEnd
import HandS.HeadHook1
import PySem.Challenge.RW_wornpages_k41_least_and_gap
set_option Elab.async false
set_option linter.all false
set_option maxRecDepth 100000
set_option maxHeartbeats 4000000
/-! Kit: unified operators, method calls by the receiver's class, and step lemmas for readings. -/
namespace Kit
open PySem PySem.Spec PyProof.Rows L2

section
variable {X : Cx}
/-! ### unified operators -/
abbrev rStrAdd : R2 := fun x y H Q => ∃ i j, x = .str i ∧ y = .str j ∧ i.length + j.length ≤ sizeLine ∧ Q (.str (i ++ j)) H
def uAdd (K : PySem.W.Frag) : R2 := fun x y H Q => rI0 (fun i j => .int (i + j)) x y H Q ∨ (rStrAdd x y H Q ∨ (rCat x y H Q ∨ rCatT K x y H Q))
theorem op_uAdd : OpR X (binaryOp .Add) (uAdd X.K) := op_add.or (op_add_str.or (op_cat.or op_catT))
def uMul : R2 := fun x y H Q => rI CMul (fun i j => .int (i * j)) x y H Q ∨ (rRep x y H Q ∨ rI CMulW (fun i j => .int (i * j)) x y H Q)
theorem op_uMul : OpR X (binaryOp .Mult) uMul := op_mul.or (op_rep.or op_mulW)
def uShl : R2 := rI CShl fun i j => .int (i * 2 ^ j.toNat)
theorem op_uShl : OpR X (binaryOp .LShift) uShl := op_shlW
def uEq (K : PySem.W.Frag) : R2 := fun x y H Q => rEq x y H Q ∨ rEqD K x y H Q
theorem op_uEq (hu : X.A.units + 64 < cLine) : OpR X (compareOp .Eq) (uEq X.K) := op_eq.or (op_eqD hu)
def uNe (K : PySem.W.Frag) : R2 := fun x y H Q => rNe x y H Q ∨ rNeD K x y H Q
theorem op_uNe (hu : X.A.units + 64 < cLine) : OpR X (compareOp .NotEq) (uNe X.K) := op_ne.or (op_neD hu)
abbrev rLtI : R2 := rI0 fun i j => .bl (decide (i < j))
def uLt : R2 := rLtI
theorem op_uLt : OpR X (compareOp .Lt) uLt := op_lt
def uIn (K : PySem.W.Frag) : R2 := rIn K false
theorem op_uIn : OpR X (compareOp .In) (uIn X.K) := op_in_seq
def uNotIn (K : PySem.W.Frag) : R2 := rIn K true
theorem op_uNotIn : OpR X (compareOp .NotIn) (uNotIn X.K) := op_notIn_seq
abbrev rIsNon : R2 := fun x y H Q => y = .non ∧ Q (.bl (decide (x = .non))) H
abbrev rIsNotNon : R2 := fun x y H Q => y = .non ∧ Q (.bl (!decide (x = .non))) H

def uIs : R2 := fun x y H Q => rIsNon x y H Q ∨ rIsB x y H Q
theorem op_uIs : OpR X (compareOp .Is) uIs := op_isN.or op_isBl
def uIsNot : R2 := fun x y H Q => rIsNotNon x y H Q ∨ rNotB x y H Q
theorem op_uIsNot : OpR X (compareOp .IsNot) uIsNot := op_notN.or op_notBl

/-! ### calls -/
theorem passL2 : ∀ σ, PassesAt (L2.CX X.prog X.w) X σ ((fun _ => E0) σ) := fun _ _ _ _ _ _ _ h => by
  obtain ⟨_, _, _, _, _, _, _, _, _, _, _, _, z⟩ := h
  exact z.elim
/-- a method of a class, by what it promises -/
structure MO (P : Program) (w : World) (K : PySem.W.Frag) (mg : Str → Option Value) (base : Heap) (CX : CXT) (n : Nat) (C : Addr) (m : Str) (sp : Sp) : Prop where
  ex : ∃ f fd ps, Cls K C ∧ Meth K C m f ∧ FnOk P w K mg base CX n f fd ps sp ∧ Binds K fd ps []
variable {CX : CXT} {k : Nat} {f C : Addr} {fd : FuncData} {ps : List Str} {sp : Sp} {dvs : List V} {ds : List Value} {E : L2.St → XK} {x m : Str} {p pos apos : Pos} {e o : Expr} {es : List Expr} {ta : TE} {t : TA}
/-- o.m(..), by the class that o has -/
def mtK (P : Program) (w : World) (K : PySem.W.Frag) (mg : Str → Option Value) (base : Heap) (CX : CXT) (n : Nat) (m : Str) (E : XK) (σ : L2.St) (t : TA) (Q : VK) : V → Hp → Prop := fun x H1 => ∃ a C dx fs sp, x = .ref a ∧ H1 a = some (.ins C dx fs) ∧ fs.lookup m = none ∧
  MO P w K mg base CX n C m sp ∧ t σ H1 fun vs H2 => sp (x :: vs) H2 Q E
def tMethD (P : Program) (w : World) (K : PySem.W.Frag) (mg : Str → Option Value) (base : Heap) (CX : CXT) (n : Nat) (m : Str) (E : L2.St → XK) (ta : TE) (t : TA) : TE := fun σ H Q => ta σ H (mtK P w K mg base CX n m (E σ) σ t Q)
theorem pe_methD {pl : Sem Bool} (he : PE X o ta) (hr : Room k X.A) (hx : ∀ σ, PassesAt CX X σ (E σ)) (ha : PA X (e :: es) t)
    (hst : starEach (e :: es) X.env = (false, eval e X.env) :: starEach es X.env := by rfl) (hpl : (backTo pos (starEach es X.env)).any (·.1) = false := by rfl)
    (ht : eval (.Call (.Attribute o m apos) (e :: es) [] pos) X.env = (do
      let ov ← eval o X.env
      standAt apos.atName
      let (f, first) ← holding [ov] (getMethod ov m pl)
      callWith pos f first (backTo pos (starEach (e :: es) X.env)) (backToKw pos (keywordEach [] X.env))) := by rfl) :
    PE X (.Call (.Attribute o m apos) (e :: es) [] pos) (tMethD X.prog X.w X.K X.mg X.base CX k m E ta t) := by
  refine ⟨fun pins s σ H Q I h => ?_⟩
  refine PySem.W.methodCall_KW (pl := pl) (thn (he.run pins s σ H _ I h) fun u s1 ⟨x, H1, I1, rx, a, C, dx, fs, sp, ex, ea, l, mo, q⟩ => ?_) ht
  subst ex
  obtain rfl : u = Value.ref a := rx
  obtain ⟨f, fd, ps, c, hm, F, hb⟩ := mo.ex
  refine getmeth_ok I1 ea c hm l ?_
  refine PySem.W.callWith_K (first := [.ref a]) (h₀ := X.base) I.ok.mod.kin hm.kp (thn (ha.run pos pins s1 σ H1 _ I1 q) fun us s2 ⟨vs, H2, I2, r, q2⟩ => ⟨I2.kIn, ?_⟩) hst hpl
  exact run_fnS (us := .ref a :: us) (vs := .ref a :: vs) F hr hb (hx σ) I2 (.cons rfl r) q2
theorem pe_methD0 {pl : Sem Bool} (he : PE X o ta) (hr : Room k X.A) (hx : ∀ σ, PassesAt CX X σ (E σ))
    (ht : eval (.Call (.Attribute o m apos) [] [] pos) X.env = (do
      let ov ← eval o X.env
      standAt apos.atName
      let (f, first) ← holding [ov] (getMethod ov m pl)
      callWith pos f first (backTo pos (starEach [] X.env)) (backToKw pos (keywordEach [] X.env))) := by rfl) :
    PE X (.Call (.Attribute o m apos) [] [] pos) (tMethD X.prog X.w X.K X.mg X.base CX k m E ta tNil) := by
  refine ⟨fun pins s σ H Q I h => ?_⟩
  refine PySem.W.methodCall_KW (pl := pl) (thn (he.run pins s σ H _ I h) fun u s1 ⟨x, H1, I1, rx, a, C, dx, fs, sp, ex, ea, l, mo, q⟩ => ?_) ht
  subst ex
  obtain rfl : u = Value.ref a := rx
  obtain ⟨f, fd, ps, c, hm, F, hb⟩ := mo.ex
  refine getmeth_ok I1 ea c hm l ?_
  exact PySem.W.callWith_K0 (first := [.ref a]) I1.kIn hm.kp (run_fnS (us := [.ref a]) (vs := [.ref a]) F hr hb (hx σ) I1 (.cons rfl .nil) q)
theorem pe_callS0 (F : FnOk X.prog X.w X.K X.mg X.base CX k f fd ps sp) (hr : Room k X.A) (hg : Gl X x) (hm : X.mg x = some (.ref f)) (hk : PySem.W.keepIn X.K (.ref f) = true) (hb : Binds X.K fd ps []) (hx : ∀ σ, PassesAt CX X σ (E σ))
    (hdb : (x == ("__debug__" : Str)) = false := by decide) : PE X (.Call (.Name x p) [] [] pos) (tCallS sp E tNil) := by
  refine ⟨fun pins s σ H Q I h => ?_⟩
  refine wpAny_Call_Name_kw (ld_glob I hg hm ?_ hdb)
  exact PySem.W.callWith_K0 I.kIn hk (run_fnS (us := []) F hr hb (hx σ) I .nil h)
/-- C(..), what is raised at the slots -/
def tMakeS (C : Addr) (sp : Sp) (dvs : List V) (E : L2.St → XK) (t : TA) : TE := fun σ H Q => t σ H fun vs H1 => ∀ x dx, H1 x = none → H1 dx = none → dx ≠ x →
  sp (.ref x :: (vs ++ dvs)) (upd (upd H1 dx (.own x)) x (.ins C dx [])) (fun v H2 => v = .non ∧ Q (.ref x) H2) (E σ)
end

section
variable {X : Cx} {CX : CXT} {k : Nat} {f C : Addr} {fd : FuncData} {ps : List Str} {sp : Sp} {dvs : List V} {ds : List Value} {E : L2.St → XK} {x : Str} {p pos : Pos} {e : Expr} {es : List Expr} {t : TA}
/-- a class without an own __init__ -/
structure Mk0 (K : PySem.W.Frag) (C : Addr) : Prop where
  makes : PySem.W.makesIn K C = true
  init : PySem.W.findIn K (.ref C) "__init__" = some (some (.builtin "object.__init__"))
  kp : PySem.W.keepIn K (.ref C) = true
theorem run_make0 {pins : List (Addr × Obj)} {σ : L2.St} {H : Hp} {s : Shared} {Q : VK} (M : Mk0 X.K C) (I : Inv X pins σ H s)
    (h : ∀ x dx, H x = none → H dx = none → dx ≠ x → Q (.ref x) (upd (upd H dx (.own x)) x (.ins C dx []))) : wpAny (model X.prog X.w) X.A (call (.ref C) []) (EP X pins σ Q) X.xe s := by
  have hq := h (s.heap.objs.size + 1) s.heap.objs.size (I.hok.fresh (Nat.le_succ _)) (I.hok.fresh (Nat.le_refl _)) (Nat.ne_of_lt (Nat.lt_succ_self _))
  have I2 := Inv.made (C := C) I
  have KX := I.kIn
  have Y := PySem.W.makes_of (M := model X.prog X.w) KX M.makes
  obtain ⟨hh, g, d, t, os⟩ := s
  refine wpAny_call (PySem.W.make_core Y (PySem.W.looks_findIn KX M.init) (fun self => PySem.W.Looks.of_pure (PySem.W.oi_bind self)) (.inr ⟨rfl, rfl⟩) ?_)
  have e1 : ((hh.push PySem.W.emptyDict).push (PySem.W.instObj C hh.objs.size)).get? (hh.objs.size + 1) = some (PySem.W.instObj C hh.objs.size) := by heap_get
  have t1 : PySem.W.Looks (model X.prog X.w) ((hh.push PySem.W.emptyDict).push (PySem.W.instObj C hh.objs.size)) (typeOf (.ref (hh.objs.size + 1))) (.ref C) := (PySem.W.Looks.ld e1).andThen .now
  have t2 : PySem.W.Looks (model X.prog X.w) ((hh.push PySem.W.emptyDict).push (PySem.W.instObj C hh.objs.size)) (isInstance (.ref (hh.objs.size + 1)) (.type "object")) true :=
    t1.andThen (Y.top.keeps fun b o e => Heap.get?_push_of_some _ (Heap.get?_push_of_some _ e))
  refine codeAny_call_builtin PySem.W.oi_plain PySem.W.entry_oi (@PySem.W.check_slot (model X.prog X.w) _ _ _ "object.__init__" "object" "__init__" (.ref (hh.objs.size + 1)) [] [] _ PySem.W.oi_kind PySem.W.oi_split t2 (PySem.W.oi_args (.ref (hh.objs.size + 1))) ?_)
  rw [PySem.W.oi_run]
  exact wpAny_pure (And.intro rfl ⟨V.ref (hh.objs.size + 1), _, I2, rfl, hq⟩)
def tMake0 (C : Addr) : TE := fun _ H Q => ∀ x dx, H x = none → H dx = none → dx ≠ x → Q (.ref x) (upd (upd H dx (.own x)) x (.ins C dx []))
theorem pe_mkN (M : Mk0 X.K C) (hg : Gl X x) (hm : X.mg x = some (.ref C)) (hdb : (x == ("__debug__" : Str)) = false := by decide) : PE X (.Call (.Name x p) [] [] pos) (tMake0 C) := by
  refine ⟨fun pins s σ H Q I h => ?_⟩
  refine wpAny_Call_Name_kw (ld_glob I hg hm ?_ hdb)
  exact PySem.W.callWith_K0 I.kIn M.kp (run_make0 M I h)
theorem run_makeS {pins : List (Addr × Obj)} {σ : L2.St} {H : Hp} {s : Shared} {Q : VK} {us : List Value} {vs : List V} (M : Mk X.K C f) (F : FnOk X.prog X.w X.K X.mg X.base CX k f fd ps sp) (hr : Room (k + 1) X.A) (hb : Binds X.K fd ps ds) (hd : Vals dvs ds)
    (hx : ∀ σ, PassesAt CX X σ (E σ)) (I : Inv X pins σ H s) (r : Vals vs us)
    (h : ∀ x dx, H x = none → H dx = none → dx ≠ x → sp (.ref x :: (vs ++ dvs)) (upd (upd H dx (.own x)) x (.ins C dx [])) (fun v H2 => v = .non ∧ Q (.ref x) H2) (E σ)) :
    wpAny (model X.prog X.w) X.A (call (.ref C) us) (EP X pins σ Q) X.xe s := by
  have hq := h (s.heap.objs.size + 1) s.heap.objs.size (I.hok.fresh (Nat.le_succ _)) (I.hok.fresh (Nat.le_refl _)) (Nat.ne_of_lt (Nat.lt_succ_self _))
  have I2 := Inv.made (C := C) I
  have r2 : Vals (V.ref (s.heap.objs.size + 1) :: (vs ++ dvs)) (Value.ref (s.heap.objs.size + 1) :: (us ++ ds)) := .cons rfl (r.append hd)
  have hl : (Value.ref (s.heap.objs.size + 1) :: us ++ ds).length = ps.length := by
    have e := r2.length
    rw [F.len _ _ _ _ hq] at e
    exact e.symm
  refine wpAny_call (make_map (f := f) I.kIn M.makes M.init (beq_iff_eq.mp M.fn) (codeAny_mono (F.run _ X.stack _ _ ⟨Value.ref (s.heap.objs.size + 1) :: us, []⟩ (Value.ref (s.heap.objs.size + 1) :: (us ++ ds)) _ _ (E σ) (hr.make C us [])
    (I2.env0.make C us []) (hb _ (Value.ref (s.heap.objs.size + 1) :: us) I2.kIn hl) r2 hq) fun r s' hq' => ?_))
  cases r with
  | error e => exact hx σ pins _ _ e s' I2 hq'
  | ok fl =>
    cases fl with
    | ret u =>
      obtain ⟨v, H', I3, rv, ev, q3⟩ := I2.after hq'
      subst ev
      exact ⟨rv, ⟨V.ref (s.heap.objs.size + 1), H', I3, rfl, q3⟩⟩
    | next => exact False.elim hq'
    | brk => exact False.elim hq'
    | cont => exact False.elim hq'
theorem pe_mkS (M : Mk X.K C f) (F : FnOk X.prog X.w X.K X.mg X.base CX k f fd ps sp) (hr : Room (k + 1) X.A) (hg : Gl X x) (hm : X.mg x = some (.ref C)) (hb : Binds X.K fd ps ds) (hd : Vals dvs ds) (hx : ∀ σ, PassesAt CX X σ (E σ))
    (ha : PA X (e :: es) t) (hdb : (x == ("__debug__" : Str)) = false := by decide) (he : starEach (e :: es) X.env = (false, eval e X.env) :: starEach es X.env := by rfl) (hpl : (backTo pos (starEach es X.env)).any (·.1) = false := by rfl) :
    PE X (.Call (.Name x p) (e :: es) [] pos) (tMakeS C sp dvs E t) := by
  refine ⟨fun pins s σ H Q I h => ?_⟩
  refine wpAny_Call_Name_kw (ld_glob I hg hm ?_ hdb)
  refine PySem.W.callWith_K (h₀ := X.base) I.ok.mod.kin M.kp (thn (ha.run pos pins s σ H _ I h) fun us s1 ⟨vs, H1, I1, r, q⟩ => ⟨I1.kIn, ?_⟩) he hpl
  exact run_makeS M F hr hb hd hx I1 r q
theorem pe_mkS0 (M : Mk X.K C f) (F : FnOk X.prog X.w X.K X.mg X.base CX k f fd ps sp) (hr : Room (k + 1) X.A) (hg : Gl X x) (hm : X.mg x = some (.ref C)) (hb : Binds X.K fd ps ds) (hd : Vals dvs ds) (hx : ∀ σ, PassesAt CX X σ (E σ))
    (hdb : (x == ("__debug__" : Str)) = false := by decide) : PE X (.Call (.Name x p) [] [] pos) (tMakeS C sp dvs E tNil) := by
  refine ⟨fun pins s σ H Q I h => ?_⟩
  refine wpAny_Call_Name_kw (ld_glob I hg hm ?_ hdb)
  exact PySem.W.callWith_K0 I.kIn M.kp (run_makeS (us := []) M F hr hb hd hx I .nil h)
end

/-! ### steps: statements -/
section
variable {σ : L2.St} {H H1 : Hp} {K : PySem.W.Frag} {D : Ends} {t u : TS} {te ta tb : TE} {c : TT} {i : Nat} {v x y : V} {Q : VK} {QB : Bool → Hp → Prop} {A B : Prop} {b : Bool}
theorem x_seq (h : t { D with nx := u D } σ H) : tSeq t u D σ H := h
theorem x_seqA {g : TG} (h : tAsg te g { D with nx := u D } σ H) : tSeq (tAsg te g) u D σ H := h
theorem x_seqD (h : tDrop te { D with nx := u D } σ H) : tSeq (tDrop te) u D σ H := h
theorem x_seqF {f : Str} (h : sFld K ta te f { D with nx := u D } σ H) : tSeq (sFld K ta te f) u D σ H := h
theorem x_seqFA {f : Str} {rd : V → V → Hp → VK → Prop} (h : sFldAug K ta te rd f { D with nx := u D } σ H) : tSeq (sFldAug K ta te rd f) u D σ H := h
theorem x_seqAug {ti : TIp} (h : tAug i te ti { D with nx := u D } σ H) : tSeq (tAug i te ti) u D σ H := h
theorem x_next (q : D.nx σ H) : tNext D σ H := q
theorem x_asg {g : TG} (h : te σ H fun x H1 => g x σ H1 D.nx) : tAsg te g D σ H := h
theorem x_gname {QS : L2.St → Hp → Prop} (q : QS (σ.set i (some v)) H) : gName i v σ H QS := q
theorem x_ret (h : te σ H D.rt) : tRet te D σ H := h
theorem x_retN (h : D.rt .non H) : tRetN D σ H := h
theorem x_drop (h : te σ H fun _ H1 => D.nx σ H1) : tDrop te D σ H := h
theorem x_if (h : c σ H fun b H1 => if b = true then t D σ H1 else u D σ H1) : tIfS c t u D σ H := h
theorem x_iteT (h : A) : if true = true then A else B := iteT h
theorem x_iteF (h : B) : if false = true then A else B := iteF h
theorem x_iteD {p : Prop} [Decidable p] (h1 : p → A) (h2 : ¬ p → B) : if decide p = true then A else B := by
  by_cases h : p
  · rw [decide_eq_true h]; exact iteT (h1 h)
  · rw [decide_eq_false h]; exact iteF (h2 h)
theorem x_iteN (h : if b = true then B else A) : if (!b) = true then A else B := by
  cases b with
  | true => exact h
  | false => exact h
theorem x_iteB (h1 : b = true → A) (h2 : b = false → B) : if b = true then A else B := by
  cases b with
  | true => exact iteT (h1 rfl)
  | false => exact iteF (h2 rfl)
/-- ways that join: J holds at the end of t on every way -/
theorem x_join (J : L2.St → Hp → Prop) (h1 : ∀ R : L2.St → Hp → Prop, (∀ σ' H', J σ' H' → R σ' H') → t { D with nx := R } σ H) (h2 : ∀ σ' H', J σ' H' → u D σ' H') : tSeq t u D σ H := h1 (u D) h2
/-! ### steps: expressions -/
theorem x_var (h : σ[i]? = some (some v)) (q : Q v H) : tVar i σ H Q := ⟨v, h, q⟩
theorem x_c (q : Q v H) : tC v σ H Q := q
theorem x_op {r : R2} (h : ta σ H fun x H1 => tb σ H1 fun y H2 => r x y H2 Q) : tOp r ta tb σ H Q := h
theorem x_un {r : V → Hp → VK → Prop} (h : ta σ H fun x H1 => r x H1 Q) : tUn r ta σ H Q := h
theorem x_cb {r : List V → Hp → VK → Prop} {t : TA} (h : t σ H fun vs H1 => r vs H1 Q) : tCB r t σ H Q := h
theorem x_nil {QA : List V → Hp → Prop} (q : QA [] H) : tNil σ H QA := q
theorem x_cons {QA : List V → Hp → Prop} {tr : TA} (h : ta σ H fun x H1 => tr σ H1 fun xs H2 => QA (x :: xs) H2) : tCons ta tr σ H QA := h
theorem x_callS {sp : Sp} {E : L2.St → XK} {t : TA} (h : t σ H fun vs H1 => sp vs H1 Q (E σ)) : tCallS sp E t σ H Q := h
theorem x_ifExp (h : c σ H fun c H1 => if c = true then ta σ H1 Q else tb σ H1 Q) : tIf c ta tb σ H Q := h
theorem x_test (h : te σ H fun x H' => ∃ k, x = .bl k ∧ QB k H') : tTest te σ H QB := h
theorem x_tB (h : te σ H fun x H' => ∃ k, x = .bl k ∧ QB k H') : tB te σ H QB := h
theorem x_and {t u : TT} (h : t σ H fun c H1 => if c = true then u σ H1 QB else QB false H1) : tAnd t u σ H QB := h
theorem x_or {t u : TT} (h : t σ H fun c H1 => if c = true then QB true H1 else u σ H1 QB) : tOr t u σ H QB := h
theorem x_not {t : TT} (h : t σ H fun c H1 => QB (!c) H1) : tNot t σ H QB := h
theorem x_andT (h : ta σ H fun x H1 => ∃ k, TruV K x H1 k ∧ if k = true then tb σ H1 Q else Q x H1) : tAndT K ta tb σ H Q := h
theorem x_orT (h : ta σ H fun x H1 => ∃ k, TruV K x H1 k ∧ if k = true then Q x H1 else tb σ H1 Q) : tOrT K ta tb σ H Q := h
theorem x_notT (h : ta σ H fun x H1 => ∃ k, TruV K x H1 k ∧ Q (.bl (!k)) H1) : tNotT K ta σ H Q := h
theorem x_truB (q : A) {P : Bool → Prop} (h : P b) : ∃ k, TruV K (.bl b) H k ∧ P k := ⟨b, rfl, h⟩
theorem x_truBl {P : Bool → Prop} (h : P b) : ∃ k, TruV K (.bl b) H k ∧ P k := ⟨b, rfl, h⟩
theorem x_isbl {P : Bool → Prop} (h : P b) : ∃ k, V.bl b = .bl k ∧ P k := ⟨b, rfl, h⟩
theorem x_chain {r r' : R2} {tc : TE} (h : ta σ H fun x H1 => tb σ H1 fun y H2 => r x y H2 fun z H3 => ∃ k, z = .bl k ∧ if k = true then tc σ H3 fun z' H4 => r' y z' H4 Q else Q (.bl false) H3) : tChain r r' ta tb tc σ H Q := h
/-! ### steps: operators on values -/
variable {m n : Int} {s1 s2 : Str}
theorem x_addI (q : Q (.int (m + n)) H) : uAdd K (.int m) (.int n) H Q := .inl ⟨m, n, rfl, rfl, q⟩
theorem x_addS (q : Q (.str (s1 ++ s2)) H) (h : s1.length + s2.length ≤ sizeLine) : uAdd K (.str s1) (.str s2) H Q := .inr (.inl ⟨s1, s2, rfl, rfl, h, q⟩)
theorem x_I0 {g : Int → Int → V} (q : Q (g m n) H) : rI0 g (.int m) (.int n) H Q := ⟨m, n, rfl, rfl, q⟩
theorem x_I {C : Int → Int → Prop} {g : Int → Int → V} (q : Q (g m n) H) (h : C m n) : rI C g (.int m) (.int n) H Q := ⟨m, n, rfl, rfl, h, q⟩
theorem x_pow {g : Int → Int → V} (q : Q (g m n) H) (h : CPow m n) : rI CPow g (.int m) (.int n) H Q := ⟨m, n, rfl, rfl, h, q⟩
theorem x_lt (q : Q (.bl (decide (m < n))) H) : uLt (.int m) (.int n) H Q := ⟨m, n, rfl, rfl, q⟩
theorem x_mulI (q : Q (.int (m * n)) H) (h : CMul m n) : uMul (.int m) (.int n) H Q := .inl ⟨m, n, rfl, rfl, h, q⟩
theorem x_mulU (q : Q (.int (m * n)) H) (h : m.natAbs < 2 ^ 250 ∧ n.natAbs < 2 ^ 250) : uMul (.int m) (.int n) H Q := .inr (.inr ⟨m, n, rfl, rfl, wide_mul h.1 h.2 (by decide) (by decide) (by decide), q⟩)
theorem same_upd {o : HO} {p : Addr} (h : H p = none) : Same H (upd H p o) := fun b u e => by rw [upd_ne (ne_of_none e h)]; exact e
theorem same_updS {H H' : Hp} {o : HO} {p : Addr} (s : Same H H') (h : H p = none) : Same H (upd H' p o) := fun b u e => by rw [upd_ne (ne_of_none e h)]; exact s _ _ e
theorem cutV_from {xs : List V} (k : Nat) : cutV xs (some (k : Int)) none = xs.drop k := by
  unfold cutV
  rw [HT.sIx_nat, HT.sIx_none]
  by_cases h : k ≤ xs.length
  · rw [Nat.min_eq_left h, List.take_of_length_le (by rw [List.length_drop]; exact Nat.le_refl _)]
  · rw [Nat.min_eq_right (by omega), List.drop_of_length_le (Nat.le_refl _), List.drop_of_length_le (by omega), List.take_nil]
theorem cutV_to {xs : List V} (k : Nat) : cutV xs none (some (k : Int)) = xs.take k := by
  unfold cutV
  rw [HT.sIx_nat, HT.sIx_none, List.drop_zero, Nat.sub_zero]
  by_cases h : k ≤ xs.length
  · rw [Nat.min_eq_left h]
  · rw [Nat.min_eq_right (by omega), List.take_of_length_le (Nat.le_refl _), List.take_of_length_le (by omega)]
/-- a new object: what is asked of it -/
abbrev New (H : Hp) (Q : VK) (o : HO) : Prop := ∀ p H1, H p = none → Same H H1 → H1 p = some o → Q (.ref p) H1
theorem New.mk {o : HO} (h : New H Q o) : ∀ p, H p = none → Q (.ref p) (upd H p o) := fun p hp => h p _ hp (same_upd hp) upd_same
def nwL (Q : VK) : List V → Hp → Prop := fun xs H1 => xs.length ≤ sizeLine ∧ ∀ p, H1 p = none → Q (.ref p) (upd H1 p (.lst xs))
def nwT (Q : VK) : List V → Hp → Prop := fun xs H1 => xs.length ≤ sizeLine ∧ ∀ p, H1 p = none → Q (.ref p) (upd H1 p (.tup xs))
theorem x_nwL {xs : List V} (h : New H Q (.lst xs)) (hl : xs.length ≤ sizeLine) : nwL Q xs H := ⟨hl, h.mk⟩
theorem x_nwT {xs : List V} (h : New H Q (.tup xs)) (hl : xs.length ≤ sizeLine) : nwT Q xs H := ⟨hl, h.mk⟩
theorem x_addL {l l' : Addr} {xs ys : List V} (h1 : H l = some (.lst xs)) (h2 : H l' = some (.lst ys)) (q : New H Q (.lst (xs ++ ys))) (hl : xs.length + ys.length ≤ sizeLine) : uAdd K (.ref l) (.ref l') H Q :=
  .inr (.inr (.inl ⟨l, l', xs, ys, rfl, rfl, h1, h2, hl, q.mk⟩))
theorem x_rep {l : Addr} {xs : List V} (h1 : H l = some (.lst xs)) (q : New H Q (.lst (List.replicate n.toNat xs).flatten)) (h2 : n < 2 ^ 63) (h0 : 0 ≤ n) (hl : xs.length * n.toNat ≤ sizeLine) : uMul (.ref l) (.int n) H Q :=
  .inr (.inl ⟨l, n, xs, rfl, rfl, h1, Int.le_trans (by decide) h0, h2, hl, q.mk⟩)
theorem flat_rep {v : V} : ∀ n : Nat, (List.replicate n [v]).flatten = List.replicate n v
  | 0 => rfl
  | n + 1 => by rw [List.replicate_succ, List.flatten_cons, flat_rep n]; rfl
/-- [v] * n -/
theorem x_rep1 {l : Addr} {v : V} (h1 : H l = some (.lst [v])) (q : New H Q (.lst (List.replicate n.toNat v))) (h : 0 ≤ n ∧ n ≤ 1000000) : uMul (.ref l) (.int n) H Q :=
  x_rep h1 (by rw [flat_rep]; exact q) (by omega) h.1 (by rw [List.length_singleton, Nat.one_mul]; exact Nat.le_trans (show n.toNat ≤ 1000000 by omega) (by decide))
theorem cdivW {i j : Int} (h : 0 < j) (h2 : j < 10 ^ 60) : CDivW i j := by
  refine wide_div (b := 200) h ?_ (by decide) (by decide)
  have : (2:Nat) ^ 200 = 1606938044258990275541962092341162602522202993782792835301376 := by decide
  omega
theorem x_shl (q : Q (.int (m * 2 ^ n.toNat)) H) (h : CShl m n) : uShl (.int m) (.int n) H Q := ⟨m, n, rfl, rfl, h, q⟩
theorem x_U {g : Int → V} (q : Q (g m) H) : rU g (.int m) H Q := ⟨m, rfl, q⟩
theorem x_eqI (q : Q (.bl (decide (m = n))) H) : uEq K (.int m) (.int n) H Q := .inl ⟨rfl, by rw [dec_int, ← Bool.beq_eq_decide_eq] at *; exact q⟩
theorem x_neI (q : Q (.bl (!decide (m = n))) H) : uNe K (.int m) (.int n) H Q := .inl ⟨rfl, by rw [dec_int, ← Bool.beq_eq_decide_eq] at *; exact q⟩
theorem x_eqB {b c : Bool} (q : Q (.bl (decide (b = c))) H) : uEq K (.bl b) (.bl c) H Q := .inl ⟨rfl, by rw [dec_bl, ← Bool.beq_eq_decide_eq] at *; exact q⟩
theorem x_neB {b c : Bool} (q : Q (.bl (!decide (b = c))) H) : uNe K (.bl b) (.bl c) H Q := .inl ⟨rfl, by rw [dec_bl, ← Bool.beq_eq_decide_eq] at *; exact q⟩
theorem x_eqS (q : Q (.bl (decide (s1 = s2))) H) : uEq K (.str s1) (.str s2) H Q := .inl ⟨rfl, by rw [dec_str] at *; rw [show decide (s1 = s2) = (s1 == s2) from by rw [Bool.beq_eq_decide_eq]] at q; exact q⟩
theorem x_tup {t : TA} (h : t σ H (nwT Q)) : tTup t σ H Q := h
theorem x_lst {t : TA} (h : t σ H (nwL Q)) : tLst t σ H Q := h
/-! ### steps: sequences -/
variable {p : Addr} {xs : List V} {ns : List Int}
theorem atI_getD {α : Type} {xs : List α} {i : Int} (d : α) (h0 : 0 ≤ i) (h1 : i < xs.length) : atI xs i = some (xs.getD i.toNat d) := by
  obtain ⟨j, rfl⟩ : ∃ j : Nat, i = (j : Int) := ⟨i.toNat, by omega⟩
  have hj : j < xs.length := by omega
  exact atI_nat (by simp [hj])
theorem x_ixI (h : SqL K H p (ns.map V.int)) (q : Q (.int (ns.getD n.toNat 0)) H) (h0 : 0 ≤ n) (h1 : n < ns.length) : rIx K (.ref p) (.int n) H Q :=
  .inl ⟨p, _, n, _, rfl, rfl, h, by
    rw [atI_getD (.int 0) h0 (by rw [List.length_map]; exact h1)]
    have hn : n.toNat < ns.length := by omega
    simp [hn], q⟩
theorem x_ixS (h : SqL K H p xs) (ha : atI xs n = some v) (q : Q v H) : rIx K (.ref p) (.int n) H Q := .inl ⟨p, _, n, _, rfl, rfl, h, ha, q⟩
theorem atI_0 {α : Type} {x : α} {xs : List α} : atI (x :: xs) 0 = some x := atI_nat (j := 0) (by simp)
theorem x_ixH (h : SqL K H p (v :: xs)) (q : Q v H) : rIx K (.ref p) (.int 0) H Q := .inl ⟨p, _, 0, _, rfl, rfl, h, atI_0, q⟩
theorem atI_any (n : Nat) (hn : 0 < n) (o : Int) (ho : o = 0 ∨ o = -1) : ∃ i, i < n ∧ ∀ {α : Type} (xs : List α), xs.length = n → atI xs o = xs[i]? := by
  rcases ho with rfl | rfl
  · exact ⟨0, hn, fun xs h => by
      cases xs with
      | nil => simp at h; omega
      | cons x xs => rw [atI_0]; rfl⟩
  · refine ⟨n - 1, by omega, fun xs h => ?_⟩
    unfold atI ixN
    rw [h, if_neg (by decide), if_pos (by omega)]
    show xs[((n : Int) + -1).toNat]? = _
    rw [show ((n : Int) + -1).toNat = n - 1 by omega]
theorem x_ixL (h : SqL K H p xs) (q : Q (xs.getD n.toNat .non) H) (h0 : 0 ≤ n) (h1 : n < xs.length) : rIx K (.ref p) (.int n) H Q :=
  .inl ⟨p, _, n, _, rfl, rfl, h, atI_getD _ h0 h1, q⟩
theorem x_ixT (h : SqT K H p xs) (ha : atI xs n = some v) (q : Q v H) : rIx K (.ref p) (.int n) H Q :=
  .inr (.inl ⟨p, _, n, _, rfl, rfl, h, ha, q⟩)
end

/-! ### data -/
section
variable {X : Cx} {σ : L2.St} {H H' : Hp} {K : PySem.W.Frag} {Q : VK} {x y : V}
theorem cl_all : ∀ ds : List PyData, PyData.canLayAll0 ds = true ↔ ∀ d ∈ ds, PyData.canLay0 d = true
  | [] => by simp [PyData.canLayAll0]
  | d :: ds => by rw [PyData.canLayAll0, Bool.and_eq_true, cl_all ds]; simp
theorem dp_all {k : Nat} : ∀ ds : List PyData, PyData.depthAll ds ≤ k ↔ ∀ d ∈ ds, PyData.depth d ≤ k
  | [] => by simp [PyData.depthAll]
  | d :: ds => by rw [PyData.depthAll, Nat.max_le, dp_all ds]; simp
/-- data of a depth that can be compared -/
def Sh (k : Nat) (d : PyData) : Prop := d.canLay0 = true ∧ d.depth ≤ k
theorem Sh.list {k : Nat} {ds : List PyData} (h : ∀ d ∈ ds, Sh k d) : Sh (k + 1) (.list ds) := ⟨by rw [PyData.canLay0]; exact (cl_all ds).mpr fun d m => (h d m).1, by rw [PyData.depth]; exact Nat.succ_le_succ ((dp_all ds).mpr fun d m => (h d m).2)⟩
theorem Sh.tup {k : Nat} {ds : List PyData} (h : ∀ d ∈ ds, Sh k d) : Sh (k + 1) (.tuple ds) := ⟨by rw [PyData.canLay0]; exact (cl_all ds).mpr fun d m => (h d m).1, by rw [PyData.depth]; exact Nat.succ_le_succ ((dp_all ds).mpr fun d m => (h d m).2)⟩
theorem Sh.int {k : Nat} {n : Int} : Sh k (.int n) := ⟨by simp [PyData.canLay0], by simp [PyData.depth]⟩
theorem Sh.non {k : Nat} : Sh k .none := ⟨by simp [PyData.canLay0], by simp [PyData.depth]⟩
theorem Sh.bl {k : Nat} {b : Bool} : Sh k (.bool b) := ⟨by simp [PyData.canLay0], by simp [PyData.depth]⟩
theorem Sh.str {k : Nat} {s : Str} (h : PyData.strOk s = true) : Sh k (.str s) := ⟨by rw [PyData.canLay0]; exact h, by simp [PyData.depth]⟩
theorem Sh.shaped {k : Nat} {d : PyData} (h : Sh k d) (hk : k ≤ 64) : SeqAt.shaped d = true := by
  unfold SeqAt.shaped
  rw [h.1, decide_eq_true (Nat.le_trans h.2 hk)]
  rfl
theorem Sh.refl {k : Nat} {d : PyData} (h : Sh k d) : PyData.eqv d d = true := SeqAt.eqv_refl d h.1
theorem x_eqD {d e : PyData} (h1 : Dp K H x d) (h2 : Dp K H y e) (s1 : Sh 9 d) (s2 : Sh 9 e) (q : Q (.bl (PyData.eqv d e)) H) : uEq K x y H Q := .inr ⟨d, e, h1, h2, s1.shaped (by decide), s2.shaped (by decide), q⟩
theorem x_neD {d e : PyData} (h1 : Dp K H x d) (h2 : Dp K H y e) (s1 : Sh 9 d) (s2 : Sh 9 e) (q : Q (.bl (!PyData.eqv d e)) H) : uNe K x y H Q := .inr ⟨d, e, h1, h2, s1.shaped (by decide), s2.shaped (by decide), q⟩
/-- the same data -/
theorem x_eqS2 {d : PyData} (h1 : Dp K H x d) (h2 : Dp K H y d) (s1 : Sh 9 d) (q : Q (.bl true) H) : uEq K x y H Q := x_eqD h1 h2 s1 s1 (by rw [s1.refl]; exact q)
theorem x_neS2 {d : PyData} (h1 : Dp K H x d) (h2 : Dp K H y d) (s1 : Sh 9 d) (q : Q (.bl false) H) : uNe K x y H Q := x_neD h1 h2 s1 s1 (by rw [s1.refl]; exact q)
theorem dpAll_of : ∀ {vs : List V} {ds : List PyData}, vs.length = ds.length → (∀ (i : Nat) v d, vs[i]? = some v → ds[i]? = some d → Dp K H v d) → DpAll K H vs ds
  | [], [], _, _ => .nil
  | v :: vs, d :: ds, hl, h => .cons (h 0 v d rfl rfl) (dpAll_of (by simpa using hl) fun i a b h1 h2 => h (i + 1) a b h1 h2)
theorem dpInts : ∀ {ns : List Int}, DpAll K H (ns.map V.int) (ns.map PyData.int)
  | [] => .nil
  | n :: ns => .cons (.int n) dpInts
end
/-! ### loops -/
section
variable {X : Cx} {σ : L2.St} {H : Hp} {K : PySem.W.Frag} {D : Ends} {g : TG} {tb : TS} {tl te : TE} {tt : TT} {ta : TA} {a : Addr} {xs : List V} {Q : VK} {vs : List Nat}
theorem sl_u : SlR X (rSlL X.K) := sl_list
theorem x_slice {to th : TO} {r : V → Option Int → Option Int → Hp → VK → Prop} (h : te σ H fun x H1 => to σ H1 fun l H2 => th σ H2 fun u H3 => r x l u H3 Q) : tSl r te to th σ H Q := h
theorem x_noPart {QO : Option Int → Hp → Prop} (q : QO none H) : tNoPart σ H QO := q
def ptK (QO : Option Int → Hp → Prop) : V → Hp → Prop := fun x H1 => ∃ i, x = .int i ∧ QO (some i) H1
theorem x_part {QO : Option Int → Hp → Prop} (h : te σ H (ptK QO)) : tPart te σ H QO := h
theorem x_ptK {QO : Option Int → Hp → Prop} {i : Int} (q : QO (some i) H) : ptK QO (.int i) H := ⟨i, rfl, q⟩
theorem x_slL {lo hi : Option Int} (h : SqL K H a xs) (q : New H Q (.lst (cutV xs lo hi))) : rSlL K (.ref a) lo hi H Q := ⟨a, xs, rfl, h, q.mk⟩
def loopK (J : It) (g : TG) (tb : TS) (D : Ends) (σ : L2.St) (H1 : Hp) : Prop := ∃ W : Nat → Nat → L2.St → Hp → Prop, (∃ m, W 0 m σ H1) ∧ ∀ i m σ H, W i m σ H →
  (J.stop i H ∧ D.nx σ H) ∨ (J.go i H ∧ ∃ N : L2.St → Hp → Prop, (∀ σ' H', N σ' H' → ∃ m', m' < m ∧ W (i + 1) m' σ' H') ∧ ∀ x H', J.yld i H x H' → g x σ H' fun σ2 H2 => tb { D with nx := N, ct := N, bk := D.nx } σ2 H2)
def frL (K : PySem.W.Frag) (g : TG) (tb : TS) (D : Ends) (σ : L2.St) : V → Hp → Prop := fun x H1 => ∃ a, x = .ref a ∧ (∃ xs, SqL K H1 a xs) ∧ loopK (Itl K a) g tb D σ H1
theorem x_forL (h : tl σ H (frL K g tb D σ)) : tFor (iList K tl) g tb D σ H := h
theorem x_frL (hq : SqL K H a xs) (Pv : Nat → L2.St → Hp → Prop) (h0 : Pv 0 σ H) (hl : ∀ i σ H, i ≤ xs.length → Pv i σ H → SqL K H a xs)
    (hs : ∀ i x σ H, xs[i]? = some x → Pv i σ H → g x σ H fun σ2 H2 => tb { D with nx := Pv (i + 1), ct := Pv (i + 1), bk := D.nx } σ2 H2) (hd : ∀ σ H, Pv xs.length σ H → D.nx σ H) : frL K g tb D σ (.ref a) H :=
  ⟨a, rfl, ⟨_, hq⟩, for_list Pv h0 hl hs hd⟩
def frT (K : PySem.W.Frag) (g : TG) (tb : TS) (D : Ends) (σ : L2.St) : V → Hp → Prop := fun x H1 => ∃ a, x = .ref a ∧ (∃ xs, SqT K H1 a xs) ∧ loopK (Itt K a) g tb D σ H1
theorem x_forT (h : tl σ H (frT K g tb D σ)) : tFor (iTup K tl) g tb D σ H := h
theorem x_frT (hq : SqT K H a xs) (Pv : Nat → L2.St → Hp → Prop) (h0 : Pv 0 σ H) (hl : ∀ i σ H, i ≤ xs.length → Pv i σ H → SqT K H a xs)
    (hs : ∀ i x σ H, xs[i]? = some x → Pv i σ H → g x σ H fun σ2 H2 => tb { D with nx := Pv (i + 1), ct := Pv (i + 1), bk := D.nx } σ2 H2) (hd : ∀ σ H, Pv xs.length σ H → D.nx σ H) : frT K g tb D σ (.ref a) H :=
  ⟨a, rfl, ⟨_, hq⟩, for_tup Pv h0 hl hs hd⟩
/-! a loop over a list or a tuple -/
def SqX (K : PySem.W.Frag) (H : Hp) (a : Addr) (xs : List V) : Prop := SqL K H a xs ∨ SqT K H a xs
def iSeq (K : PySem.W.Frag) (tl : TE) : TI := fun σ H R => tl σ H fun x H1 => ∃ a, x = .ref a ∧ (((∃ xs, SqL K H1 a xs) ∧ R (Itl K a) H1) ∨ ((∃ xs, SqT K H1 a xs) ∧ R (Itt K a) H1))
theorem pi_seq {X : Cx} {tg l : Expr} {tl : TE} (hl : PE X l tl) : PI X tg l (iSeq X.K tl) := by
  refine ⟨fun pins s σ H R I h => thn (hl.run pins s σ H _ I h) fun v s1 ⟨x, H1, I1, r1, a, e, q⟩ => ?_⟩
  subst e; cases r1
  have fp : ∀ b ∈ [s1.heap.objs.size], _ := fun b hb => (List.mem_singleton.mp hb) ▸ I1.fpOk (Nat.le_refl _) (I1.hok.fresh (Nat.le_refl _))
  rcases q with ⟨⟨xs, hq⟩, q⟩ | ⟨⟨xs, hq⟩, q⟩
  · obtain ⟨its, rv, p, hz⟩ := I1.list hq
    exact wpAny_pyIter_list p.isList ⟨s1.heap.objs.size, [s1.heap.objs.size], _, _, H1, rfl, I1.kept (t' := s1.toks) fun b o e => Heap.get?_push_of_some _ e, turn_list a _, ⟨_, Heap.get?_push_size _ rfl, rfl, rfl⟩, fp, q⟩
  · obtain ⟨its, rv, p, hz⟩ := I1.tuple hq
    exact wpAny_pyIter_tuple (show s1.heap.IsTuple a its.toArray from p) ⟨s1.heap.objs.size, [s1.heap.objs.size], _, _, H1, rfl, I1.kept (t' := s1.toks) fun b o e => Heap.get?_push_of_some _ e, turn_tuple a _, ⟨_, Heap.get?_push_size _ rfl, rfl, rfl⟩, fp, q⟩
def frS (K : PySem.W.Frag) (g : TG) (tb : TS) (D : Ends) (σ : L2.St) : V → Hp → Prop := fun x H1 => ∃ a, x = .ref a ∧ (((∃ xs, SqL K H1 a xs) ∧ loopK (Itl K a) g tb D σ H1) ∨ ((∃ xs, SqT K H1 a xs) ∧ loopK (Itt K a) g tb D σ H1))
theorem x_forS (h : tl σ H (frS K g tb D σ)) : tFor (iSeq K tl) g tb D σ H := h
/-- a list (k) or a tuple -/
def SqB (k : Bool) (K : PySem.W.Frag) (H : Hp) (a : Addr) (xs : List V) : Prop := if k = true then SqL K H a xs else SqT K H a xs
theorem sqB_of (h : H a = some (.lst xs) ∨ H a = some (.tup xs)) : ∃ k, ∀ H', Same H H' → SqB k K H' a xs := by
  rcases h with h | h
  · exact ⟨true, fun H' s => SqL.of (s _ _ h)⟩
  · exact ⟨false, fun H' s => SqT.of (s _ _ h)⟩
theorem x_frS {k : Bool} (hq : SqB k K H a xs) (Pv : Nat → L2.St → Hp → Prop) (h0 : Pv 0 σ H) (hl : ∀ i σ' H', i ≤ xs.length → Pv i σ' H' → SqB k K H' a xs)
    (hs : ∀ i x σ H, xs[i]? = some x → Pv i σ H → g x σ H fun σ2 H2 => tb { D with nx := Pv (i + 1), ct := Pv (i + 1), bk := D.nx } σ2 H2) (hd : ∀ σ H, Pv xs.length σ H → D.nx σ H) : frS K g tb D σ (.ref a) H := by
  cases k with
  | true => exact ⟨a, rfl, .inl ⟨⟨_, hq⟩, for_list Pv h0 hl hs hd⟩⟩
  | false => exact ⟨a, rfl, .inr ⟨⟨_, hq⟩, for_tup Pv h0 hl hs hd⟩⟩
def frR1 (g : TG) (tb : TS) (D : Ends) (σ : L2.St) : List V → Hp → Prop := fun vs H1 => ∃ j : Int, vs = [.int j] ∧ -(2 ^ 62) ≤ j ∧ j < 2 ^ 62 ∧ loopK (Itr 0 j.toNat) g tb D σ H1
theorem x_forR1 (h : ta σ H (frR1 g tb D σ)) : tFor (iRng1 ta) g tb D σ H := h
theorem x_frR1 {j : Int} (b : -(2 ^ 62) ≤ j ∧ j < 2 ^ 62) (Pv : Nat → L2.St → Hp → Prop) (h0 : Pv 0 σ H)
    (hs : ∀ i σ H, i < j.toNat → Pv i σ H → g (.int (0 + i)) σ H fun σ2 H2 => tb { D with nx := Pv (i + 1), ct := Pv (i + 1), bk := D.nx } σ2 H2) (hd : ∀ σ H, Pv j.toNat σ H → D.nx σ H) : frR1 g tb D σ [.int j] H :=
  ⟨j, rfl, b.1, b.2, for_range Pv h0 hs hd⟩
def frR2 (g : TG) (tb : TS) (D : Ends) (σ : L2.St) : List V → Hp → Prop := fun vs H1 => ∃ i j : Int, vs = [.int i, .int j] ∧ (-(2 ^ 62) ≤ i ∧ i < 2 ^ 62 ∧ -(2 ^ 62) ≤ j ∧ j < 2 ^ 62) ∧ loopK (Itr i (j - i).toNat) g tb D σ H1
theorem x_forR2 (h : ta σ H (frR2 g tb D σ)) : tFor (iRng2 ta) g tb D σ H := h
theorem x_frR2 {lo j : Int} (b : -(2 ^ 62) ≤ lo ∧ lo < 2 ^ 62 ∧ -(2 ^ 62) ≤ j ∧ j < 2 ^ 62) (Pv : Nat → L2.St → Hp → Prop) (h0 : Pv 0 σ H)
    (hs : ∀ i σ H, i < (j - lo).toNat → Pv i σ H → g (.int (lo + i)) σ H fun σ2 H2 => tb { D with nx := Pv (i + 1), ct := Pv (i + 1), bk := D.nx } σ2 H2) (hd : ∀ σ H, Pv (j - lo).toNat σ H → D.nx σ H) : frR2 g tb D σ [.int lo, .int j] H :=
  ⟨lo, j, rfl, b, for_range Pv h0 hs hd⟩
theorem x_gtup2 {i j : Nat} {QS : L2.St → Hp → Prop} {x y : V} (h : SqT K H a [x, y]) (q : QS ((σ.set i (some x)).set j (some y)) H) : gTup K 2 (gCons (gName i) (gCons (gName j) gNil)) (.ref a) σ H QS :=
  ⟨a, [x, y], rfl, h, rfl, x, [y], rfl, y, [], rfl, rfl, q⟩
theorem x_gtup3 {i j k : Nat} {QS : L2.St → Hp → Prop} {x y z : V} (h : SqT K H a [x, y, z]) (q : QS (((σ.set i (some x)).set j (some y)).set k (some z)) H) : gTup K 3 (gCons (gName i) (gCons (gName j) (gCons (gName k) gNil))) (.ref a) σ H QS :=
  ⟨a, [x, y, z], rfl, h, rfl, x, [y, z], rfl, y, [z], rfl, z, [], rfl, rfl, q⟩
def frEn (K : PySem.W.Frag) (g : TG) (tb : TS) (D : Ends) (σ : L2.St) : List V → Hp → Prop := fun vs H1 => ∃ a xs, vs = [.ref a] ∧ SqL K H1 a xs ∧ loopK (Ite K a) g tb D σ H1
theorem x_forEn (h : ta σ H (frEn K g tb D σ)) : tFor (iEnum K ta) g tb D σ H := h
theorem x_frEn {n1 n2 : Nat} (hq : SqL K H a xs) (Pv : Nat → L2.St → Hp → Prop) (h0 : Pv 0 σ H) (hl : ∀ i σ H, i ≤ xs.length → Pv i σ H → SqL K H a xs)
    (hs : ∀ i x σ H H', xs[i]? = some x → Pv i σ H → Same H H' → tb { D with nx := Pv (i + 1), ct := Pv (i + 1), bk := D.nx } ((σ.set n1 (some (.int (i : Nat)))).set n2 (some x)) H') (hd : ∀ σ H, Pv xs.length σ H → D.nx σ H) :
    frEn K (gTup K 2 (gCons (gName n1) (gCons (gName n2) gNil))) tb D σ [.ref a] H := by
  refine ⟨a, xs, rfl, hq, fun i m σ H => m = xs.length - i ∧ i ≤ xs.length ∧ Pv i σ H, ⟨xs.length, rfl, Nat.zero_le _, h0⟩, ?_⟩
  rintro i m σ H ⟨rfl, hi, p⟩
  have q := hl i σ H hi p
  by_cases hlt : i < xs.length
  · refine .inr ⟨⟨xs, _, q, List.getElem?_eq_getElem hlt⟩, Pv (i + 1), fun σ' H' p' => ⟨xs.length - (i + 1), by omega, rfl, hlt, p'⟩, fun v H' y => ?_⟩
    obtain ⟨T, x, rfl, hT, rfl, f1⟩ := y
    exact x_gtup2 (SqT.of upd_same) (hs i x σ H _ (f1 xs q) p (same_upd hT))
  · have e : i = xs.length := by omega
    subst e
    exact .inl ⟨⟨xs, q, Nat.le_refl _⟩, hd σ H p⟩
def frZ (K : PySem.W.Frag) (g : TG) (tb : TS) (D : Ends) (σ : L2.St) : List V → Hp → Prop := fun vs H1 => ∃ a b xs ys, vs = [.ref a, .ref b] ∧ SqL K H1 a xs ∧ SqL K H1 b ys ∧ loopK (Itz K a b) g tb D σ H1
theorem x_forZ (h : ta σ H (frZ K g tb D σ)) : tFor (iZip K ta) g tb D σ H := h
theorem x_frZ {n1 n2 : Nat} {b : Addr} {ys : List V} (hq : SqL K H a xs) (hq2 : SqL K H b ys) (hxy : xs.length = ys.length) (Pv : Nat → L2.St → Hp → Prop) (h0 : Pv 0 σ H) (hl : ∀ i σ H, Pv i σ H → SqL K H a xs ∧ SqL K H b ys)
    (hs : ∀ i x y σ H H', xs[i]? = some x → ys[i]? = some y → Pv i σ H → Same H H' → tb { D with nx := Pv (i + 1), ct := Pv (i + 1), bk := D.nx } ((σ.set n1 (some x)).set n2 (some y)) H') (hd : ∀ σ H, Pv xs.length σ H → D.nx σ H) :
    frZ K (gTup K 2 (gCons (gName n1) (gCons (gName n2) gNil))) tb D σ [.ref a, .ref b] H := by
  refine ⟨a, b, xs, ys, rfl, hq, hq2, fun i m σ H => m = xs.length - i ∧ i ≤ xs.length ∧ Pv i σ H, ⟨xs.length, rfl, Nat.zero_le _, h0⟩, ?_⟩
  rintro i m σ H ⟨rfl, hi, p⟩
  obtain ⟨qx, qy⟩ := hl i σ H p
  by_cases hlt : i < xs.length
  · refine .inr ⟨⟨xs, ys, _, _, qx, qy, List.getElem?_eq_getElem hlt, List.getElem?_eq_getElem (by omega)⟩, Pv (i + 1), fun σ' H' p' => ⟨xs.length - (i + 1), by omega, rfl, hlt, p'⟩, fun v H' y => ?_⟩
    obtain ⟨T, x', y', rfl, hT, rfl, f1, f2⟩ := y
    exact x_gtup2 (SqT.of upd_same) (hs i x' y' σ H _ (f1 xs qx) (f2 ys qy) p (same_upd hT))
  · have e : i = xs.length := by omega
    subst e
    exact .inl ⟨⟨xs, ys, qx, qy, Or.inl (Nat.le_refl _)⟩, hd σ H p⟩
/-! comprehensions -/
/-- tuples stay -/
def TupS (H H' : Hp) : Prop := ∀ a xs, H a = some (.tup xs) → H' a = some (.tup xs)
theorem TupS.of {H H' : Hp} (h : Same H H') : TupS H H' := fun a xs e => h a _ e
theorem TupS.trans {H H1 H2 : Hp} (a : TupS H H1) (b : TupS H1 H2) : TupS H H2 := fun c o h => b c o (a c o h)
theorem TupS.upd {H : Hp} {p : Addr} {o o' : HO} (h : H p = some o) (ho : ∀ xs, o ≠ .tup xs) : TupS H (upd H p o') := fun a xs e => by
  rw [upd_ne (ne_of e h (fun z => ho xs z.symm))]; exact e
def lcK (J : It) (g : TG) (tt : TT) (te : TE) (vs : List Nat) (σ : L2.St) (Q : VK) (H1 : Hp) : Prop := ∀ D, H1 D = none → ∃ W : Nat → Nat → Hp → Prop, (∃ m, W 0 m (upd H1 D (.lst []))) ∧ ∀ i m H, W i m H →
  (J.stop i H ∧ Q (.ref D) H) ∨ (J.go i H ∧ ∃ Nx : Hp → Prop, (∀ H', Nx H' → ∃ m', m' < m ∧ W (i + 1) m' H') ∧ ∀ x H', J.yld i H x H' → g x (wipe σ vs) H' fun σ2 H2 => wipe σ2 vs = wipe σ vs ∧ tt σ2 H2 fun b H3 =>
    if b = true then te σ2 H3 fun y H4 => ∃ acc, H4 D = some (.lst acc) ∧ acc.length < sizeLine ∧ Nx (upd H4 D (.lst (acc ++ [y]))) else Nx H3)
def lcL (K : PySem.W.Frag) (g : TG) (tt : TT) (te : TE) (vs : List Nat) (σ : L2.St) (Q : VK) : V → Hp → Prop := fun x H1 => ∃ a, x = .ref a ∧ (∃ xs, SqL K H1 a xs) ∧ lcK (Itl K a) g tt te vs σ Q H1
theorem x_lcL (h : tl σ H (lcL K g tt te vs σ Q)) : tLc (iList K tl) g tt te vs σ H Q := h
/-- what a turn of a comprehension asks -/
def LcTurn (g : TG) (tt : TT) (te : TE) (vs : List Nat) (σ : L2.St) (A : Nat → List V → Hp → Prop) (i : Nat) (x : V) (acc : List V) (H' : Hp) : Prop :=
  ∀ (NY : VK) (NN : Hp → Prop), (∀ y H4, Same H' H4 → A (i + 1) (acc ++ [y]) H4 → NY y H4) → (∀ H3, Same H' H3 → A (i + 1) acc H3 → NN H3) →
    g x (wipe σ vs) H' fun σ2 H2 => wipe σ2 vs = wipe σ vs ∧ tt σ2 H2 fun b H3 => if b = true then te σ2 H3 NY else NN H3
theorem lc_gen {n : Nat} {J : It} (Y : Nat → V → Prop) (A : Nat → List V → Hp → Prop) (hA : ∀ i acc H H', TupS H H' → A i acc H → A i acc H') (hn : n < sizeLine) (h0 : A 0 [] H)
    (hJ : ∀ (Pv : Nat → Hp → Prop) (Dr : Addr), (∀ i H', Pv i H' → Same H H') → Pv 0 (upd H Dr (.lst [])) →
      (∀ i x H', Y i x → Pv i H' → g x (wipe σ vs) H' fun σ2 H2 => wipe σ2 vs = wipe σ vs ∧ tt σ2 H2 fun b H3 =>
        if b = true then te σ2 H3 fun y H4 => ∃ acc, H4 Dr = some (.lst acc) ∧ acc.length < sizeLine ∧ Pv (i + 1) (upd H4 Dr (.lst (acc ++ [y]))) else Pv (i + 1) H3) →
      (∀ H', Pv n H' → Q (.ref Dr) H') → ∃ W : Nat → Nat → Hp → Prop, (∃ m, W 0 m (upd H Dr (.lst []))) ∧ ∀ i m H, W i m H →
        (J.stop i H ∧ Q (.ref Dr) H) ∨ (J.go i H ∧ ∃ Nx : Hp → Prop, (∀ H', Nx H' → ∃ m', m' < m ∧ W (i + 1) m' H') ∧ ∀ x H', J.yld i H x H' → g x (wipe σ vs) H' fun σ2 H2 => wipe σ2 vs = wipe σ vs ∧ tt σ2 H2 fun b H3 =>
          if b = true then te σ2 H3 fun y H4 => ∃ acc, H4 Dr = some (.lst acc) ∧ acc.length < sizeLine ∧ Nx (upd H4 Dr (.lst (acc ++ [y]))) else Nx H3))
    (hs : ∀ i x acc H', Y i x → Same H H' → A i acc H' → LcTurn g tt te vs σ A i x acc H')
    (hY : ∀ i x, Y i x → i < n) (hd : ∀ p acc H', H p = none → Same H H' → H' p = some (.lst acc) → A n acc H' → Q (.ref p) H') : lcK J g tt te vs σ Q H := by
  intro Dr hD
  refine hJ (fun i H' => ∃ acc, H' Dr = some (.lst acc) ∧ acc.length ≤ i ∧ Same H H' ∧ A i acc H') Dr (fun i H' ⟨_, _, _, s, _⟩ => s) ⟨[], upd_same, Nat.le_refl _, same_upd hD, hA _ _ _ _ (TupS.of (same_upd hD)) h0⟩ ?_ ?_
  · rintro i x H' hy ⟨acc, h1, h2, h3, h4⟩
    have hi := hY i x hy
    refine hs i x acc H' hy h3 h4 _ _ (fun y H4 s4 a4 => ?_) (fun H3 s3 a3 => ⟨acc, s3 _ _ h1, Nat.le_succ_of_le h2, h3.trans s3, a3⟩)
    have e4 := s4 _ _ h1
    refine ⟨acc, e4, by omega, acc ++ [y], upd_same, by rw [List.length_append]; exact Nat.add_le_add h2 (Nat.le_refl _), fun b o e => ?_, hA _ _ _ _ (TupS.upd e4 (fun _ z => by cases z)) a4⟩
    rw [upd_ne (ne_of_none e hD)]
    exact s4 _ _ (h3 _ _ e)
  · rintro H' ⟨acc, h1, h2, h3, h4⟩
    exact hd Dr acc H' hD h3 h1 h4
theorem x_lcLK (hq : SqL K H a xs) (A : Nat → List V → Hp → Prop) (hA : ∀ i acc H H', TupS H H' → A i acc H → A i acc H') (hn : xs.length < sizeLine) (h0 : A 0 [] H)
    (hs : ∀ i x acc H', xs[i]? = some x → Same H H' → A i acc H' → LcTurn g tt te vs σ A i x acc H')
    (hd : ∀ p acc H', H p = none → Same H H' → H' p = some (.lst acc) → A xs.length acc H' → Q (.ref p) H') : lcL K g tt te vs σ Q (.ref a) H :=
  ⟨a, rfl, ⟨_, hq⟩, lc_gen (fun i x => xs[i]? = some x) A hA hn h0 (fun Pv Dr hP p0 ht hd => lc_list (K := K) (a := a) (xs := xs) Pv p0 (fun i H' _ p => (hP i H' p).seq hq) ht hd) hs (fun i x h => (List.getElem?_eq_some_iff.mp h).1) hd⟩
def lcR1 (g : TG) (tt : TT) (te : TE) (vs : List Nat) (σ : L2.St) (Q : VK) : List V → Hp → Prop := fun ws H1 => ∃ j : Int, ws = [.int j] ∧ -(2 ^ 62) ≤ j ∧ j < 2 ^ 62 ∧ lcK (Itr 0 j.toNat) g tt te vs σ Q H1
theorem x_lcR1 (h : ta σ H (lcR1 g tt te vs σ Q)) : tLc (iRng1 ta) g tt te vs σ H Q := h
theorem x_lcR1K {j : Int} (A : Nat → List V → Hp → Prop) (hA : ∀ i acc H H', TupS H H' → A i acc H → A i acc H') (hn : 0 ≤ j ∧ j < 1000000) (h0 : A 0 [] H)
    (hs : ∀ i acc H', i < j.toNat → Same H H' → A i acc H' → LcTurn g tt te vs σ A i (.int i) acc H')
    (hd : ∀ p acc H', H p = none → Same H H' → H' p = some (.lst acc) → A j.toNat acc H' → Q (.ref p) H') : lcR1 g tt te vs σ Q [.int j] H :=
  ⟨j, rfl, by omega, by omega, lc_gen (fun i x => i < j.toNat ∧ x = .int i) A hA (Nat.lt_of_lt_of_le (by omega : j.toNat < 1000000) (by decide)) h0
    (fun Pv Dr hP p0 ht hd => lc_range Pv p0 (fun i H' hi p => ht i _ H' ⟨hi, by rw [Int.zero_add]⟩ p) hd) (fun i x acc H' h s a => by rw [h.2]; exact hs i acc H' h.1 s a) (fun i x h => h.1) hd⟩
def lcR2 (g : TG) (tt : TT) (te : TE) (vs : List Nat) (σ : L2.St) (Q : VK) : List V → Hp → Prop := fun ws H1 => ∃ i j : Int, ws = [.int i, .int j] ∧ (-(2 ^ 62) ≤ i ∧ i < 2 ^ 62 ∧ -(2 ^ 62) ≤ j ∧ j < 2 ^ 62) ∧ lcK (Itr i (j - i).toNat) g tt te vs σ Q H1
theorem x_lcR2 (h : ta σ H (lcR2 g tt te vs σ Q)) : tLc (iRng2 ta) g tt te vs σ H Q := h
theorem x_lcR2K {lo j : Int} (A : Nat → List V → Hp → Prop) (hA : ∀ i acc H H', TupS H H' → A i acc H → A i acc H') (hn : -1000000 ≤ lo ∧ lo ≤ j ∧ j < 1000000) (h0 : A 0 [] H)
    (hs : ∀ i acc H', i < (j - lo).toNat → Same H H' → A i acc H' → LcTurn g tt te vs σ A i (.int (lo + i)) acc H')
    (hd : ∀ p acc H', H p = none → Same H H' → H' p = some (.lst acc) → A (j - lo).toNat acc H' → Q (.ref p) H') : lcR2 g tt te vs σ Q [.int lo, .int j] H :=
  ⟨lo, j, rfl, ⟨by omega, by omega, by omega, by omega⟩, lc_gen (fun i x => i < (j - lo).toNat ∧ x = .int (lo + i)) A hA (Nat.lt_of_lt_of_le (by omega : (j - lo).toNat < 2000001) (by decide)) h0
    (fun Pv Dr hP p0 ht hd => lc_range Pv p0 (fun i H' hi p => ht i _ H' ⟨hi, rfl⟩ p) hd) (fun i x acc H' h s a => by rw [h.2]; exact hs i acc H' h.1 s a) (fun i x h => h.1) hd⟩
theorem x_yes {QB : Bool → Hp → Prop} (q : QB true H) : tYes σ H QB := q
/-! methods of built-in types -/
def bmK (K : PySem.W.Frag) (T : String) (r : V → List V → Hp → VK → Prop) (t : TA) (σ : L2.St) (Q : VK) : V → Hp → Prop := fun x H1 => tyV K T x H1 ∧ t σ H1 fun xs H2 => r x xs H2 Q
theorem x_bm {T : String} {r : V → List V → Hp → VK → Prop} {t : TA} (h : te σ H (bmK K T r t σ Q)) : tBM K T r te t σ H Q := h
theorem x_bmL {r : V → List V → Hp → VK → Prop} {t : TA} (hq : SqL K H a xs) (h : t σ H fun ws H2 => r (.ref a) ws H2 Q) : bmK K "list" r t σ Q (.ref a) H := ⟨.inl ⟨rfl, _, hq⟩, h⟩
def bm0K (K : PySem.W.Frag) (T : String) (r : V → List V → Hp → VK → Prop) (Q : VK) : V → Hp → Prop := fun x H1 => tyV K T x H1 ∧ r x [] H1 Q
theorem x_bm0 {T : String} {r : V → List V → Hp → VK → Prop} (h : te σ H (bm0K K T r Q)) : tBM0 K T r te σ H Q := h
theorem x_bm0L {r : V → List V → Hp → VK → Prop} (hq : SqL K H a xs) (h : r (.ref a) [] H Q) : bm0K K "list" r Q (.ref a) H := ⟨.inl ⟨rfl, _, hq⟩, h⟩
theorem x_append {y : V} (h : H a = some (.lst xs)) (q : Q .non (upd H a (.lst (xs ++ [y])))) (hl : xs.length < sizeLine) : rAppend (.ref a) [y] H Q := ⟨a, xs, y, rfl, rfl, h, hl, q⟩
theorem x_clear (h : H a = some (.lst xs)) (q : Q .non (upd H a (.lst []))) : rClear (.ref a) [] H Q := ⟨a, xs, rfl, rfl, h, q⟩
/-! objects -/
theorem x_mk0 {C : Addr} (h : ∀ x dx H1, H x = none → H dx = none → dx ≠ x → Same H H1 → H1 x = some (.ins C dx []) → H1 dx = some (.own x) → Q (.ref x) H1) : tMake0 C σ H Q := fun x dx n nd ne =>
  h x dx _ n nd ne ((same_upd nd).trans (same_upd (by rw [upd_ne (Ne.symm ne)]; exact n))) upd_same (by rw [upd_ne ne, upd_same])
def mkK (C : Addr) (sp : Sp) (dvs : List V) (Q : VK) (E : XK) : List V → Hp → Prop := fun vs H1 => ∀ x dx, H1 x = none → H1 dx = none → dx ≠ x →
  sp (.ref x :: (vs ++ dvs)) (upd (upd H1 dx (.own x)) x (.ins C dx [])) (fun v H2 => v = .non ∧ Q (.ref x) H2) E
theorem x_mkS {C : Addr} {sp : Sp} {dvs : List V} {E : L2.St → XK} {t : TA} (h : t σ H (mkK C sp dvs Q (E σ))) : tMakeS C sp dvs E t σ H Q := h
theorem x_mkK {C : Addr} {sp : Sp} {dvs ws : List V} {E : XK} (h : ∀ x dx H1, H x = none → H dx = none → dx ≠ x → Same H H1 → H1 x = some (.ins C dx []) → H1 dx = some (.own x) → sp (.ref x :: (ws ++ dvs)) H1 (fun v H2 => v = .non ∧ Q (.ref x) H2) E) :
    mkK C sp dvs Q E ws H := fun x dx n nd ne => h x dx _ n nd ne ((same_upd nd).trans (same_upd (by rw [upd_ne (Ne.symm ne)]; exact n))) upd_same (by rw [upd_ne ne, upd_same])
theorem x_methD {P : Program} {w : World} {mg : Str → Option Value} {base : Heap} {CX : CXT} {n : Nat} {m : Str} {E : L2.St → XK} {t : TA} (h : te σ H (mtK P w K mg base CX n m (E σ) σ t Q)) : tMethD P w K mg base CX n m E te t σ H Q := h
theorem x_mtK {P : Program} {w : World} {mg : Str → Option Value} {base : Heap} {CX : CXT} {n : Nat} {m : Str} {E : XK} {t : TA} {C dx : Addr} {fs : List (Str × V)} {sp : Sp} (ho : H a = some (.ins C dx fs)) (hm : MO P w K mg base CX n C m sp) (hl : fs.lookup m = none)
    (h : t σ H fun vs H2 => sp (.ref a :: vs) H2 Q E) : mtK P w K mg base CX n m E σ t Q (.ref a) H := ⟨a, C, dx, fs, sp, rfl, ho, hl, hm, h⟩
def fldK (K : PySem.W.Frag) (f : Str) (Q : VK) : V → Hp → Prop := fun x H1 => ∃ a C dx fs v, x = .ref a ∧ H1 a = some (.ins C dx fs) ∧ Cls K C ∧ NoAttr K C f ∧ fs.lookup f = some v ∧ Q v H1
theorem x_fld {f : Str} (h : te σ H (fldK K f Q)) : tFld K te f σ H Q := h
theorem x_fldK {f : Str} {C dx : Addr} {fs : List (Str × V)} {v : V} (ho : H a = some (.ins C dx fs)) (hl : fs.lookup f = some v) (q : Q v H) (hc : Cls K C) (hn : NoAttr K C f) : fldK K f Q (.ref a) H := ⟨a, C, dx, fs, v, rfl, ho, hc, hn, hl, q⟩
def sfK (K : PySem.W.Frag) (f : Str) (y : V) (D : Ends) (σ : L2.St) : V → Hp → Prop := fun x H2 => ∃ a C dx fs, x = .ref a ∧ H2 a = some (.ins C dx fs) ∧ Cls K C ∧ NoAttr K C f ∧ fs.length < 1000 ∧ D.nx σ (upd H2 a (.ins C dx (putF f y fs)))
theorem x_sfld {f : Str} (h : te σ H fun y H1 => tl σ H1 (sfK K f y D σ)) : sFld K tl te f D σ H := h
theorem x_sfK {f : Str} {C dx : Addr} {fs fs' : List (Str × V)} {y : V} (ho : H a = some (.ins C dx fs)) (hf : putF f y fs = fs') (q : D.nx σ (upd H a (.ins C dx fs'))) (hc : Cls K C) (hn : NoAttr K C f) (hl : fs.length < 1000) : sfK K f y D σ (.ref a) H :=
  ⟨a, C, dx, fs, rfl, ho, hc, hn, hl, by rw [hf]; exact q⟩
end
theorem _root_.L2.FunD.okX {P : Program} {w : World} {K : PySem.W.Frag} {mg : Str → Option Value} {base : Heap} {x qual : Str} {st : Stmt} {f : Addr} {fd : FuncData} {dvs : List V} {kws : List (Str × V)} {N ps : List Str} {k : Nat} {sp : Sp}
    (F : FunD K x qual (defArgs st) (defBody st) (defScope st) dvs kws f fd) (S : FnScope N ps (defScope st)) (len : ∀ vs H Q E, sp vs H Q E → vs.length = ps.length)
    (hbody : ∀ (cdv : Value) (A : Around) (outer : List Env) (s : Shared) (H : Hp) (vs : List V) (Q : VK) (E : XK), Room k (A.deeper (envOfC qual (defScope st) s.heap.objs.size f cdv)) → sp vs H Q E →
      ∃ t, PSs (cxOf (L2.CX P w) P w K mg base N qual (defScope st) f cdv A outer s H E) (defBody st) t ∧ t { nx := fun _ H' => Q .non H', rt := Q } (start N vs) H) : FnOk P w K mg base (L2.CX P w) (k + 1) f fd ps sp := F.ok S len hbody
/-! ### fields added to, while, is, in -/
section
variable {σ : L2.St} {H : Hp} {K : PySem.W.Frag} {D : Ends} {ta tv te : TE} {tb : TS} {tc : TT} {a : Addr} {Q : VK} {x y : V} {f : Str} {rd : V → V → Hp → VK → Prop}
/-- all but what stands at S stays -/
def Off (S : List Addr) (H H' : Hp) : Prop := ∀ b o, b ∉ S → H b = some o → H' b = some o
theorem Off.refl {S : List Addr} : Off S H H := fun _ _ _ h => h
theorem Off.of {S : List Addr} {H' : Hp} (s : Same H H') : Off S H H' := fun b o _ h => s b o h
theorem Off.trans {S : List Addr} {H1 H2 : Hp} (h1 : Off S H H1) (h2 : Off S H1 H2) : Off S H H2 := fun b o n h => h2 b o n (h1 b o n h)
theorem Off.sub {S S' : List Addr} {H' : Hp} (h : Off S H H') (hs : ∀ b, b ∈ S → b ∈ S') : Off S' H H' := fun b o n e => h b o (fun m => n (hs b m)) e
theorem Off.same {S : List Addr} {H1 H2 : Hp} (s : Same H H1) (h : Off S H1 H2) (n : ∀ b, b ∈ S → H b = none) : Same H H2 := fun b o e => h b o (fun m => by rw [n b m] at e; cases e) (s b o e)
theorem same_none {H' : Hp} {b : Addr} (s : Same H H') (h : H' b = none) : H b = none := by
  cases e : H b with
  | none => rfl
  | some o => rw [s _ _ e] at h; cases h
theorem Off.same1 {H1 H2 : Hp} (s : Same H H1) (h : Off [a] H1 H2) (n : H a = none) : Same H H2 := h.same s fun b hb => by rw [List.mem_singleton] at hb; rw [hb]; exact n
theorem Off.at {S : List Addr} {H1 : Hp} {b : Addr} {o : HO} (h : Off S H H1) (e : H b = some o) (n : b ∉ S) : H1 b = some o := h b o n e
theorem Off.upd {S : List Addr} {o : HO} (h : a ∈ S) : Off S H (upd H a o) := fun b u n e => by
  rw [upd_ne (fun z => n (by rw [z]; exact h))]; exact e
theorem Off.lst {r : Addr} {H H' : Hp} {C dx : Addr} {fs : List (Str × V)} {a : Addr} {xs : List V} (s : Off [r] H H') (hr : H r = some (.ins C dx fs)) (h : H a = some (.lst xs)) : H' a = some (.lst xs) := s a _ (fun m => by
  rw [List.mem_singleton] at m; subst m; rw [hr] at h; cases h) h
theorem Off.tup {r : Addr} {H H' : Hp} {C dx : Addr} {fs : List (Str × V)} {a : Addr} {xs : List V} (s : Off [r] H H') (hr : H r = some (.ins C dx fs)) (h : H a = some (.tup xs)) : H' a = some (.tup xs) := s a _ (fun m => by
  rw [List.mem_singleton] at m; subst m; rw [hr] at h; cases h) h
theorem Off.ins {r : Addr} {H H' : Hp} {a : Addr} {o : HO} (s : Off [r] H H') (hne : a ≠ r) (h : H a = some o) : H' a = some o := s a _ (fun m => hne (List.mem_singleton.mp m)) h
theorem Off.tups {r : Addr} {H H' : Hp} {C dx : Addr} {fs : List (Str × V)} (s : Off [r] H H') (hr : H r = some (.ins C dx fs)) : TupS H H' := fun a xs h => s.tup hr h
def f3K (a C : Addr) (f : Str) (D : Ends) (σ : L2.St) : VK := fun z H3 => ∃ dx' fs', H3 a = some (.ins C dx' fs') ∧ fs'.length < 1000 ∧ D.nx σ (upd H3 a (.ins C dx' (putF f z fs')))
def faK (K : PySem.W.Frag) (tv : TE) (rd : V → V → Hp → VK → Prop) (f : Str) (D : Ends) (σ : L2.St) : V → Hp → Prop := fun x H1 => ∃ a C dx fs v, x = .ref a ∧ H1 a = some (.ins C dx fs) ∧ Cls K C ∧ NoAttr K C f ∧ fs.lookup f = some v ∧
  tv σ H1 fun y H2 => rd v y H2 (f3K a C f D σ)
theorem x_fldAug (h : ta σ H (faK K tv rd f D σ)) : sFldAug K ta tv rd f D σ H := h
theorem x_faK {C dx : Addr} {fs : List (Str × V)} {v : V} (ho : H a = some (.ins C dx fs)) (hl : fs.lookup f = some v) (q : tv σ H fun y H2 => rd v y H2 (f3K a C f D σ)) (hc : Cls K C) (hn : NoAttr K C f) : faK K tv rd f D σ (.ref a) H := ⟨a, C, dx, fs, v, rfl, ho, hc, hn, hl, q⟩
theorem x_f3K {C dx : Addr} {fs fs' : List (Str × V)} {z : V} (ho : H a = some (.ins C dx fs)) (hf : putF f z fs = fs') (q : D.nx σ (upd H a (.ins C dx fs'))) (hl : fs.length < 1000) : f3K a C f D σ z H := ⟨dx, fs, ho, hl, by rw [hf]; exact q⟩
theorem putF_new {f : Str} {y : V} : ∀ {fs : List (Str × V)}, fs.lookup f = none → putF f y fs = fs ++ [(f, y)]
  | [], _ => rfl
  | (g, x) :: r, h => by
    rw [List.lookup_cons] at h
    by_cases e : f = g
    · subst e; simp at h
    · rw [show (f == g) = false from beq_eq_false_iff_ne.mpr e] at h
      show (if g = f then _ else _) = _
      rw [if_neg (Ne.symm e), putF_new h]
      rfl
/-- self.f = y, f new -/
theorem x_sfN {C dx : Addr} {fs : List (Str × V)} (ho : H a = some (.ins C dx fs)) (hf : fs.lookup f = none) (q : ∀ H1, Off [a] H H1 → H1 a = some (.ins C dx (fs ++ [(f, y)])) → D.nx σ H1) (hc : Cls K C) (hn : NoAttr K C f) (hl : fs.length < 1000) : sfK K f y D σ (.ref a) H :=
  ⟨a, C, dx, fs, rfl, ho, hc, hn, hl, by rw [putF_new hf]; exact q _ (Off.upd (List.mem_singleton.mpr rfl)) upd_same⟩
/-- self.f = y, f there -/
theorem x_sfO {C dx : Addr} {fs fs' : List (Str × V)} (ho : H a = some (.ins C dx fs)) (hf : putF f y fs = fs') (q : ∀ H1, Off [a] H H1 → H1 a = some (.ins C dx fs') → D.nx σ H1) (hc : Cls K C) (hn : NoAttr K C f) (hl : fs.length < 1000) : sfK K f y D σ (.ref a) H :=
  ⟨a, C, dx, fs, rfl, ho, hc, hn, hl, by rw [hf]; exact q _ (Off.upd (List.mem_singleton.mpr rfl)) upd_same⟩
theorem x_gsub {to ti : TE} {t : TSet} {v : V} {QS : L2.St → Hp → Prop} (h : to σ H fun o H1 => ti σ H1 fun i H2 => t o i v H2 fun H3 => QS σ H3) : gSub to ti t v σ H QS := h
theorem x_setL {xs : List V} {k : Int} {v : V} {QS : Hp → Prop} (hp : H a = some (.lst xs)) (q : ∀ H1, Off [a] H H1 → H1 a = some (.lst (xs.set k.toNat v)) → QS H1) (h0 : 0 ≤ k) (h1 : k < xs.length) : rSetL (.ref a) (.int k) v H QS :=
  ⟨a, xs, k, k.toNat, rfl, rfl, hp, by unfold ixN; rw [if_pos h0, if_pos h1], q _ (Off.upd (List.mem_singleton.mpr rfl)) upd_same⟩
/-- xs[i] of an augmented store -/
def rGetL (K : PySem.W.Frag) : V → V → Hp → VK → Prop := fun o i H Q => ∃ p xs k v, o = .ref p ∧ i = .int k ∧ SqL K H p xs ∧ 0 ≤ k ∧ xs[k.toNat]? = some v ∧ Q v H
theorem get_list {X : Cx} : PGet X (rGetL X.K) := by
  intro pins s σ H o i ov iv Q I ro ri h
  obtain ⟨p, xs, k, v, rfl, rfl, hq, h0, he, q⟩ := h
  cases ro
  obtain ⟨t, rfl⟩ := ri
  obtain ⟨its, r, pl, hz⟩ := I.list hq
  obtain ⟨w, ew, rw'⟩ := r.get he
  have hl := r.length
  have hn := line63
  have hlt := (List.getElem?_eq_some_iff.mp he).1
  exact wpAny_getItem_list pl.isList h0 (by omega) (by simpa using ew) ⟨v, H, I, rw', q⟩
theorem x_augS {to ti te : TE} {tget : V → V → Hp → VK → Prop} {tip : TIp} {tset : TSet} (h : to σ H fun o H1 => ti σ H1 fun i H2 => tget o i H2 fun x H3 => te σ H3 fun y H4 => tip x y H4 fun z H5 => tset o i z H5 fun H6 => D.nx σ H6) : tAugS to ti te tget tip tset D σ H := h
theorem x_seqAS {to ti te : TE} {tget : V → V → Hp → VK → Prop} {tip : TIp} {tset : TSet} {u : TS} (h : tAugS to ti te tget tip tset { D with nx := u D } σ H) : tSeq (tAugS to ti te tget tip tset) u D σ H := h
theorem x_getL {xs : List V} {k : Int} (h : SqL K H a xs) (q : Q (xs.getD k.toNat .non) H) (h0 : 0 ≤ k) (h1 : k < xs.length) : rGetL K (.ref a) (.int k) H Q := ⟨a, xs, k, _, rfl, rfl, h, h0, by
  have hn : k.toNat < xs.length := by omega
  simp [hn], q⟩
theorem x_getI {ns : List Int} {k : Int} (h : SqL K H a (ns.map V.int)) (q : Q (.int (ns.getD k.toNat 0)) H) (h0 : 0 ≤ k) (h1 : k < ns.length) : rGetL K (.ref a) (.int k) H Q := ⟨a, _, k, _, rfl, rfl, h, h0, by
  have hn : k.toNat < ns.length := by omega
  simp [hn], q⟩
theorem x_rSub {m n : Int} (q : Q (.int (m - n)) H) : rSub (.int m) (.int n) H Q := ⟨m, n, rfl, rfl, q⟩
/-- == and != of scalars of any kinds -/
theorem x_eqSc (h : scal x y = true) (q : Q (.bl (decide (x = y))) H) : uEq K x y H Q := .inl ⟨h, q⟩
theorem x_neSc (h : scal x y = true) (q : Q (.bl (!decide (x = y))) H) : uNe K x y H Q := .inl ⟨h, q⟩
/-- xs[i] by values that are named otherwise -/
theorem x_ixF {α : Type} {l : List α} {g : α → V} {k : Int} (d : α) (h : SqL K H a (l.map g)) (q : Q (g (l.getD k.toNat d)) H) (h0 : 0 ≤ k) (h1 : k < l.length) : rIx K (.ref a) (.int k) H Q := by
  have hn : k.toNat < l.length := by omega
  refine x_ixL h ?_ h0 (by rw [List.length_map]; exact h1)
  rw [show (l.map g).getD k.toNat .non = g (l.getD k.toNat d) by simp [hn]]
  exact q
theorem x_f3O {C dx : Addr} {fs fs' : List (Str × V)} {z : V} (ho : H a = some (.ins C dx fs)) (hf : putF f z fs = fs') (q : ∀ H1, Off [a] H H1 → H1 a = some (.ins C dx fs') → D.nx σ H1) (hl : fs.length < 1000) : f3K a C f D σ z H := ⟨dx, fs, ho, hl, by rw [hf]; exact q _ (Off.upd (List.mem_singleton.mpr rfl)) upd_same⟩
theorem nin_of {b : Addr} (h : b ≠ a) : b ∉ [a] := fun z => h (List.mem_singleton.mp z)
theorem x_appO {xs : List V} (h : H a = some (.lst xs)) (q : ∀ H1, Off [a] H H1 → H1 a = some (.lst (xs ++ [y])) → Q .non H1) (hl : xs.length < sizeLine) : rAppend (.ref a) [y] H Q := ⟨a, xs, y, rfl, rfl, h, hl, q _ (Off.upd (List.mem_singleton.mpr rfl)) upd_same⟩
theorem str_len {n : Int} (h0 : 0 ≤ n) (h1 : n < 300) : (Str.ofString (toString n)).length ≤ 20 := by
  have k : ∀ m : Nat, m < 300 → (Str.ofString (toString (m : Int))).length ≤ 20 := by decide +kernel
  have := k n.toNat (by omega)
  rwa [show ((n.toNat : Nat) : Int) = n by omega] at this
theorem small_log {n : Int} (h0 : 0 ≤ n) (h1 : n < 1000000) : n.natAbs.log2 < 1920 := by
  by_cases e : n.natAbs = 0
  · rw [e]; decide
  · exact (Nat.log2_lt e).mpr (Nat.lt_of_lt_of_le (show n.natAbs < 2 ^ 20 by omega) (Nat.pow_le_pow_right (by decide) (by decide)))
theorem x_ixB {bs : List Bool} {k : Int} (h : SqL K H a (bs.map V.bl)) (q : Q (.bl (bs.getD k.toNat false)) H) (h0 : 0 ≤ k) (h1 : k < bs.length) : rIx K (.ref a) (.int k) H Q := x_ixF false h q h0 h1
theorem off_none {r b : Addr} {H1 : Hp} (h : Off [r] H H1) (n : H1 b = none) (hne : b ≠ r) : H b = none := by
  cases e : H b with
  | none => rfl
  | some o => rw [h.at e (nin_of hne)] at n; cases n
theorem x_clearO {xs : List V} (h : H a = some (.lst xs)) (q : ∀ H1, Off [a] H H1 → H1 a = some (.lst []) → Q .non H1) : rClear (.ref a) [] H Q := ⟨a, xs, rfl, rfl, h, q _ (Off.upd (List.mem_singleton.mpr rfl)) upd_same⟩
theorem line_len {n : Nat} (h : n ≤ 1000) : n ≤ sizeLine := Nat.le_trans h (by decide)
/-- or of two tests that only look -/
theorem x_orK {t u : TT} {QB : Bool → Hp → Prop} {b1 b2 : Bool} (h1 : ∀ QB : Bool → Hp → Prop, QB b1 H → t σ H QB) (h2 : ∀ QB : Bool → Hp → Prop, QB b2 H → u σ H QB) (q : QB (b1 || b2) H) : tOr t u σ H QB := by
  refine x_or (h1 _ ?_)
  cases b1 with
  | true => exact q
  | false => exact h2 _ q
theorem x_rAdd {m n : Int} (q : Q (.int (m + n)) H) : rAdd (.int m) (.int n) H Q := ⟨m, n, rfl, rfl, q⟩
theorem x_aug {i : Nat} {ti : TIp} (h : σ[i]? = some (some x)) (q : te σ H fun y H1 => ti x y H1 fun z H2 => D.nx (σ.set i (some z)) H2) : tAug i te ti D σ H := ⟨x, h, q⟩
theorem x_ipI {g : Int → Int → Int} {m n : Int} (q : Q (.int (g m n)) H) : ipI g (.int m) (.int n) H Q := ⟨m, n, rfl, rfl, q⟩
def whK (W : Nat → L2.St → Hp → Prop) (tb : TS) (D : Ends) (m : Nat) (σ : L2.St) : Bool → Hp → Prop := fun b H1 => if b = true then ∃ N : L2.St → Hp → Prop, (∀ σ' H', N σ' H' → ∃ m', m' < m ∧ W m' σ' H') ∧ tb { D with nx := N, ct := N, bk := D.nx } σ H1 else D.nx σ H1
theorem x_whl (W : Nat → L2.St → Hp → Prop) (m : Nat) (h0 : W m σ H) (hs : ∀ m σ H, W m σ H → tc σ H (whK W tb D m σ)) : tWhile tc tb D σ H := ⟨W, ⟨m, h0⟩, hs⟩
theorem x_whD {W : Nat → L2.St → Hp → Prop} {m : Nat} {p : Prop} [Decidable p] (h1 : p → ∀ N : L2.St → Hp → Prop, (∀ m' σ' H', m' < m → W m' σ' H' → N σ' H') → tb { D with nx := N, ct := N, bk := D.nx } σ H) (h2 : ¬ p → D.nx σ H) : whK W tb D m σ (decide p) H := by
  unfold whK
  refine x_iteD (fun h => ?_) h2
  exact ⟨fun σ' H' => ∃ m', m' < m ∧ W m' σ' H', fun _ _ n => n, h1 h _ fun m' σ' H' l w => ⟨m', l, w⟩⟩
theorem x_isN (q : Q (.bl (decide (x = .non))) H) : uIs x .non H Q := .inl ⟨rfl, q⟩
theorem x_isNotN (q : Q (.bl (!decide (x = .non))) H) : uIsNot x .non H Q := .inl ⟨rfl, q⟩
theorem x_isB {b c : Bool} (q : Q (.bl (decide (b = c))) H) : uIs (.bl b) (.bl c) H Q := .inr ⟨b, c, rfl, rfl, q⟩
theorem x_isNotB {b c : Bool} (q : Q (.bl (!decide (b = c))) H) : uIsNot (.bl b) (.bl c) H Q := .inr ⟨b, c, rfl, rfl, q⟩
theorem inV_int (n : Int) (ns : List Int) : inV (.int n) (ns.map V.int) = decide (n ∈ ns) := by
  unfold inV
  induction ns with
  | nil => rfl
  | cons m ns ih =>
    rw [List.map_cons, List.any_cons, ih]
    have e : eqV (.int m) (.int n) = decide (n = m) := by
      show (m == n) = _
      rw [Bool.eq_iff_iff, beq_iff_eq, decide_eq_true_iff]
      exact ⟨Eq.symm, Eq.symm⟩
    rw [e, ← Bool.decide_or, decide_eq_decide, List.mem_cons]
theorem flat_ints (ns : List Int) : (ns.map V.int).all flatV = true := by
  rw [List.all_eq_true]
  intro x h
  obtain ⟨n, _, rfl⟩ := List.mem_map.mp h
  rfl
theorem x_inI {n : Int} {ns : List Int} (h : SqL K H a (ns.map V.int)) (q : Q (.bl (decide (n ∈ ns))) H) : uIn K (.int n) (.ref a) H Q := ⟨a, _, rfl, .inl h, rfl, flat_ints ns, by rw [inV_int] <;> exact q⟩
theorem x_notInI {n : Int} {ns : List Int} (h : SqL K H a (ns.map V.int)) (q : Q (.bl (!decide (n ∈ ns))) H) : uNotIn K (.int n) (.ref a) H Q := ⟨a, _, rfl, .inl h, rfl, flat_ints ns, by rw [inV_int] <;> exact q⟩
end
/-! ### dicts of text keys -/
section
variable {σ : L2.St} {H : Hp} {K : PySem.W.Frag} {D : Ends} {td ty tv : TE} {a : Addr} {Q : VK} {x v : V} {z : Str} {kvs kvs' : List (L2.Key × V)}
def dgK (x : V) (Q : VK) : V → Hp → Prop := fun y H2 => ∃ a v, x = .ref a ∧ DGet H2 a y (some v) ∧ Q v H2
theorem x_dget (h : td σ H fun x H1 => ty σ H1 (dgK x Q)) : tDGet td ty σ H Q := h
theorem x_dgS (h : H a = some (.dK kvs)) (hv : valV kvs (.inr z) = some v) (q : Q v H) : dgK (.ref a) Q (.str z) H := ⟨a, v, rfl, by rw [← hv]; exact DGet.k (k := .inr z) h, q⟩
theorem x_dgI {n : Int} (h : H a = some (.dK kvs)) (hv : valV kvs (.inl n) = some v) (q : Q v H) : dgK (.ref a) Q (.int n) H := ⟨a, v, rfl, by rw [← hv]; exact DGet.k (k := .inl n) h, q⟩
def dpK (x v : V) (D : Ends) (σ : L2.St) : V → Hp → Prop := fun y H3 => ∃ a H4, x = .ref a ∧ DPut H3 a y v H4 ∧ D.nx σ H4
theorem x_dput (h : tv σ H fun v H1 => td σ H1 fun x H2 => ty σ H2 (dpK x v D σ)) : sDPut td ty tv D σ H := h
theorem x_seqDP {u : TS} (h : sDPut td ty tv { D with nx := u D } σ H) : tSeq (sDPut td ty tv) u D σ H := h
theorem x_dpS (h : H a = some (.dK kvs)) (hk : putK kvs (.inr z) v = kvs') (q : ∀ H1, Off [a] H H1 → H1 a = some (.dK kvs') → D.nx σ H1) (hl : kvs.length ≤ 1000) : dpK (.ref a) v D σ (.str z) H :=
  ⟨a, _, rfl, DPut.k (k := .inr z) h (Nat.lt_of_le_of_lt hl (by decide)), by rw [hk]; exact q _ (Off.upd (List.mem_singleton.mpr rfl)) upd_same⟩
theorem x_dpI {n : Int} (h : H a = some (.dK kvs)) (hk : putK kvs (.inl n) v = kvs') (q : ∀ H1, Off [a] H H1 → H1 a = some (.dK kvs') → D.nx σ H1) (hl : kvs.length ≤ 1000) : dpK (.ref a) v D σ (.int n) H :=
  ⟨a, _, rfl, DPut.k (k := .inl n) h (Nat.lt_of_le_of_lt hl (by decide)), by rw [hk]; exact q _ (Off.upd (List.mem_singleton.mpr rfl)) upd_same⟩
/-- {k: v, ..} -/
def dspK (p : Addr) (Q : VK) : List (V × V) → Hp → Prop := fun ps H2 => H2 p = some (.dK []) ∧ ∃ kvs : List (L2.Key × V), ps = kvs.map (fun kv => (kV kv.1, kv.2)) ∧ kvs.length ≤ 15 ∧ Q (.ref p) (upd H2 p (.dK (mergeK [] kvs)))
theorem x_disp {trs : List (TE × TE)} (h : ∀ p H1, H p = none → Same H H1 → H1 p = some (.dK []) → tPairs trs σ H1 (dspK p Q)) : tDisp trs σ H Q := fun p hp => h p _ hp (same_upd hp) upd_same
theorem x_prN {QP : List (V × V) → Hp → Prop} (q : QP [] H) : tPairs [] σ H QP := q
theorem x_prC {tk tv : TE} {r : List (TE × TE)} {QP : List (V × V) → Hp → Prop} (q : tk σ H fun x H1 => tv σ H1 fun y H2 => tPairs r σ H2 fun ps H3 => QP ((x, y) :: ps) H3) : tPairs ((tk, tv) :: r) σ H QP := q
theorem x_dspK {ps : List (V × V)} (kvs : List (L2.Key × V)) (h : H a = some (.dK [])) (e : ps = kvs.map (fun kv => (kV kv.1, kv.2))) (hl : kvs.length ≤ 15) (hm : mergeK [] kvs = kvs') (q : ∀ H1, Off [a] H H1 → H1 a = some (.dK kvs') → Q (.ref a) H1) : dspK a Q ps H :=
  ⟨h, kvs, e, hl, by rw [hm]; exact q _ (Off.upd (List.mem_singleton.mpr rfl)) upd_same⟩
theorem x_dnew (h : ∀ p H1, H p = none → Same H H1 → H1 p = some (.dK []) → Q (.ref p) H1) : tDNewK σ H Q := fun p hp => h p _ hp (same_upd hp) upd_same
/-! k in d, d.get(k), d.get(k, x), d.setdefault(k, x), d.pop(k), d.pop(k, x) -/
def dinK (y : V) (Q : VK) : V → Hp → Prop := fun x H2 => ∃ a o, x = .ref a ∧ DGet H2 a y o ∧ Q (.bl o.isSome) H2
theorem x_din (h : ty σ H fun y H1 => td σ H1 (dinK y Q)) : tDIn ty td σ H Q := h
def dninK (y : V) (Q : VK) : V → Hp → Prop := fun x H2 => ∃ a o, x = .ref a ∧ DGet H2 a y o ∧ Q (.bl (!o.isSome)) H2
theorem x_dnin (h : ty σ H fun y H1 => td σ H1 (dninK y Q)) : tDNotIn ty td σ H Q := h
theorem x_dninI {n : Int} (h : H a = some (.dK kvs)) (q : Q (.bl (!(valV kvs (.inl n)).isSome)) H) : dninK (.int n) Q (.ref a) H := ⟨a, _, rfl, DGet.k (k := .inl n) h, q⟩
theorem x_dinI {n : Int} (h : H a = some (.dK kvs)) (q : Q (.bl (valV kvs (.inl n)).isSome) H) : dinK (.int n) Q (.ref a) H := ⟨a, _, rfl, DGet.k (k := .inl n) h, q⟩
def dg1E (a : Addr) (Q : VK) : V → Hp → Prop := fun y H2 => ∃ o, DGet H2 a y o ∧ Q (o.getD .non) H2
def dg1K (ty : TE) (Q : VK) (σ : L2.St) : V → Hp → Prop := fun x H1 => ∃ a, x = .ref a ∧ IsD H1 a ∧ ty σ H1 (dg1E a Q)
theorem x_dget1 (h : td σ H (dg1K ty Q σ)) : tDGet1 td ty σ H Q := h
theorem x_dg1K (h : H a = some (.dK kvs)) (q : ty σ H (dg1E a Q)) : dg1K ty Q σ (.ref a) H := ⟨a, rfl, .inl ⟨kvs, .inl h⟩, q⟩
theorem x_dg1I {n : Int} (h : H a = some (.dK kvs)) (q : Q ((valV kvs (.inl n)).getD .non) H) : dg1E a Q (.int n) H := ⟨_, DGet.k (k := .inl n) h, q⟩
def dsE (a : Addr) (Q : VK) (y : V) : V → Hp → Prop := fun z H3 => ∃ (kvs : List (L2.Key × V)) (k : L2.Key), H3 a = some (.dK kvs) ∧ y = kV k ∧ kvs.length < sizeLine ∧ (∀ v, valV kvs k = some v → Q v H3) ∧ (valV kvs k = none → Q z (L2.upd H3 a (.dK (putK kvs k z))))
def dsK (ty tx : TE) (Q : VK) (σ : L2.St) : V → Hp → Prop := fun x H1 => ∃ a, x = .ref a ∧ IsD H1 a ∧ ty σ H1 fun y H2 => tx σ H2 (dsE a Q y)
theorem x_dsetd {tx : TE} (h : td σ H (dsK ty tx Q σ)) : tDSetd td ty tx σ H Q := h
theorem x_dsK {tx : TE} (h : H a = some (.dK kvs)) (q : ty σ H fun y H2 => tx σ H2 (dsE a Q y)) : dsK ty tx Q σ (.ref a) H := ⟨a, rfl, .inl ⟨kvs, .inl h⟩, q⟩
theorem x_dsI {n : Int} (h : H a = some (.dK kvs)) (hl : kvs.length ≤ 1000) (q1 : ∀ u, valV kvs (.inl n) = some u → Q u H) (q2 : valV kvs (.inl n) = none → ∀ H1, Off [a] H H1 → H1 a = some (.dK (putK kvs (.inl n) v)) → Q v H1) : dsE a Q (.int n) v H :=
  ⟨kvs, .inl n, h, rfl, Nat.lt_of_le_of_lt hl (by decide), q1, fun hn => q2 hn _ (Off.upd (List.mem_singleton.mpr rfl)) upd_same⟩
def dpp1E (a : Addr) (Q : VK) : V → Hp → Prop := fun y H2 => ∃ kvs k v, H2 a = some (.dK kvs) ∧ y = kV k ∧ valV kvs k = some v ∧ Q v (L2.upd H2 a (.dK (dropK kvs k)))
def dpp1K (ty : TE) (Q : VK) (σ : L2.St) : V → Hp → Prop := fun x H1 => ∃ a, x = .ref a ∧ IsD H1 a ∧ ty σ H1 (dpp1E a Q)
theorem x_dpop1 (h : td σ H (dpp1K ty Q σ)) : tDPop1 td ty σ H Q := h
theorem x_dpp1K (h : H a = some (.dK kvs)) (q : ty σ H (dpp1E a Q)) : dpp1K ty Q σ (.ref a) H := ⟨a, rfl, .inl ⟨kvs, .inl h⟩, q⟩
theorem x_dpp1I {n : Int} (h : H a = some (.dK kvs)) (hv : valV kvs (.inl n) = some v) (q : ∀ H1, Off [a] H H1 → H1 a = some (.dK (dropK kvs (.inl n))) → Q v H1) : dpp1E a Q (.int n) H := ⟨kvs, .inl n, v, h, rfl, hv, q _ (Off.upd (List.mem_singleton.mpr rfl)) upd_same⟩
def dpp2E (a : Addr) (Q : VK) (y : V) : V → Hp → Prop := fun z H3 => ∃ kvs k, H3 a = some (.dK kvs) ∧ y = kV k ∧ (∀ v, valV kvs k = some v → Q v (L2.upd H3 a (.dK (dropK kvs k)))) ∧ (valV kvs k = none → Q z H3)
def dpp2K (ty tx : TE) (Q : VK) (σ : L2.St) : V → Hp → Prop := fun x H1 => ∃ a, x = .ref a ∧ IsD H1 a ∧ ty σ H1 fun y H2 => tx σ H2 (dpp2E a Q y)
theorem x_dpop2 {tx : TE} (h : td σ H (dpp2K ty tx Q σ)) : tDPop2 td ty tx σ H Q := h
theorem x_dpp2K {tx : TE} (h : H a = some (.dK kvs)) (q : ty σ H fun y H2 => tx σ H2 (dpp2E a Q y)) : dpp2K ty tx Q σ (.ref a) H := ⟨a, rfl, .inl ⟨kvs, .inl h⟩, q⟩
theorem x_dpp2I {n : Int} (h : H a = some (.dK kvs)) (q1 : ∀ u, valV kvs (.inl n) = some u → ∀ H1, Off [a] H H1 → H1 a = some (.dK (dropK kvs (.inl n))) → Q u H1) (q2 : valV kvs (.inl n) = none → Q v H) : dpp2E a Q (.int n) v H :=
  ⟨kvs, .inl n, h, rfl, fun u hu => q1 u hu _ (Off.upd (List.mem_singleton.mpr rfl)) upd_same, q2⟩
/-- what a dict of whole numbers tells behind a new pair -/
theorem valV_put_self {kvs : List (L2.Key × V)} {k : L2.Key} (hn : valV kvs k = none) : putK kvs k v = kvs ++ [(k, v)] := by
  unfold putK
  rw [valV_any, hn]
  rfl
end
/-! ### exceptions -/
section
variable {X : Cx} {K : PySem.W.Frag} {W Wout : WX} {D : Ends} {σ : L2.St} {H : Hp} {cls c : Value} {d : Option Addr} {a C fI : Addr} {Q : VK}
/-- an exception class without an own __init__ -/
structure XC (K : PySem.W.Frag) (C : Addr) : Prop where
  q : PySem.W.excIn K C [.type "ValueError", .type "Exception", .type "BaseException", .type "object"] "ValueError.__new__" = true
  k : PySem.W.keepIn K (.ref C) = true
  r : PySem.W.subIn K (.ref C) (.type "BaseException") = some true
  t : PySem.W.typeIn K (.ref C) = some (.type "type")
/-- one with an own __init__ -/
structure XI (K : PySem.W.Frag) (C fI : Addr) : Prop where
  o : OexC K C
  i : PySem.W.findIn K (.ref C) "__init__" = some (some (.ref fI))
  t : PySem.W.typeIn K (.ref fI) = some (.type "function")
  f : XfC K C
def tRaise (t : L2.St → Hp → XK → Prop) (W : WX) : TS := fun _ σ H => t σ H fun cls d H' => W cls d σ H'
theorem ps_raiseK {e : Expr} {t : L2.St → Hp → XK → Prop} {pos : Pos} (hc : X.calm = true) (tk : Takes X W) (he : PMk X e t) : PS X (.Raise (some e) none pos) (tRaise t W) := ps_raise hc tk he
def tMkE (C : Addr) : L2.St → Hp → XK → Prop := fun _ H Q => Q (.ref C) none H
theorem pmk_ownK {x m : Str} {j : Nat} {p p2 pos : Pos} (T : XC X.K C) (gC : X.mg x = some (.ref C)) (hg : Gl X x) (hdb : (x == ("__debug__" : Str)) = false := by decide) : PMk X (.Call (.Name x p) [.Constant (.str m) j p2] [] pos) (tMkE C) :=
  pmk_own PySem.F.excBase_ValueError T.q gC T.k (raises_own T.r T.t) hg hdb
theorem x_raise {t : L2.St → Hp → XK → Prop} (h : t σ H fun cls d H' => W cls d σ H') : tRaise t W D σ H := h
theorem x_seqR {t : L2.St → Hp → XK → Prop} {u : TS} (h : tRaise t W { D with nx := u D } σ H) : tSeq (tRaise t W) u D σ H := h
theorem x_mkE {Q : XK} (q : Q (.ref C) none H) : tMkE C σ H Q := q
def tTry1 (K : PySem.W.Frag) (c : Value) (tb : WX → TS) (ts : Addr → Value → Option Addr → TS) (Wout : WX) : TS := fun D σ H => tb (wOnly K c ts Wout D) D σ H
theorem x_try1 {tb : WX → TS} {ts : Addr → Value → Option Addr → TS} (h : tb (wOnly K c ts Wout D) D σ H) : tTry1 K c tb ts Wout D σ H := h
theorem x_seqT1 {tb : WX → TS} {ts : Addr → Value → Option Addr → TS} {u : TS} (h : tTry1 K c tb ts Wout { D with nx := u D } σ H) : tSeq (tTry1 K c tb ts Wout) u D σ H := h
theorem ps_try1 {x : Str} {body suite : List Stmt} {b₀ : Stmt} {np pos pos' : Pos} {tb : WX → TS} {ts : Addr → Value → Option Addr → TS} (hs : X.stack = X.env :: X.outer) (hf : X.env.frame = some X.env.locals) (hc : Names X x c) (tk : Takes X Wout)
    (hb : ∀ (W : WX) (pn : List (Addr × Obj)) (xe : Value → Shared → Prop), Takes (X.tr pn xe) W → PassesOwn (model X.prog X.w) X.A X.env xe → PSs (X.tr pn xe) body (tb W))
    (hsu : ∀ (a : Addr) (oe : Obj) (cls : Value) (d : Option Addr) (pn : List (Addr × Obj)), Zc cls d oe → (∃ vs, oe.data = .fields vs) → PSs (X.suite a ((a, oe) :: pn)) (b₀ :: suite) (ts a cls d)) :
    PS X (.Try body [.ExceptHandler (some (.Name x np)) none (b₀ :: suite) pos'] [] [] pos) (tTry1 X.K c tb ts Wout) := ps_try_only hs hf hc tk hb hsu
theorem x_onlyT {ts : Addr → Value → Option Addr → TS} (hx : PySem.W.exmOne K cls c = some true) (q : ∀ a, H a = none → ts a cls d D σ H) : wOnly K c ts Wout D cls d σ H := ⟨true, hx, fun _ => q, fun z => nomatch z⟩
theorem x_onlyF {ts : Addr → Value → Option Addr → TS} (hx : PySem.W.exmOne K cls c = some false) (q : Wout cls d σ H) : wOnly K c ts Wout D cls d σ H := ⟨false, hx, (fun z => nomatch z), fun _ => q⟩
def tTryA (K : PySem.W.Frag) (c : Value) (i : Nat) (tb : WX → TS) (ts : Addr → Value → Option Addr → TS) (Wout : WX) : TS := fun D σ H => tb (wAs K c i ts Wout D) D σ H
theorem x_tryA {i : Nat} {tb : WX → TS} {ts : Addr → Value → Option Addr → TS} (h : tb (wAs K c i ts Wout D) D σ H) : tTryA K c i tb ts Wout D σ H := h
theorem x_seqTA {i : Nat} {tb : WX → TS} {ts : Addr → Value → Option Addr → TS} {u : TS} (h : tTryA K c i tb ts Wout { D with nx := u D } σ H) : tSeq (tTryA K c i tb ts Wout) u D σ H := h
theorem ps_tryA {x n : Str} {i : Nat} {body suite : List Stmt} {b₀ : Stmt} {np pos pos' : Pos} {tb : WX → TS} {ts : Addr → Value → Option Addr → TS} (hs : X.stack = X.env :: X.outer) (hf : X.env.frame = some X.env.locals) (hN : X.N.Nodup) (hi : X.N[i]? = some n) (hln : X.env.kindOf n = some .local) (hc : Names X x c) (tk : Takes X Wout)
    (hb : ∀ (W : WX) (pn : List (Addr × Obj)) (xe : Value → Shared → Prop), Takes (X.tr pn xe) W → PassesOwn (model X.prog X.w) X.A X.env xe → PSs (X.tr pn xe) body (tb W))
    (hsu : ∀ (a : Addr) (oe : Obj) (cls : Value) (d : Option Addr) (pn : List (Addr × Obj)), Zc cls d oe → (∃ vs, oe.data = .fields vs) → PSs (X.suite a ((a, oe) :: pn)) (b₀ :: suite) (ts a cls d)) :
    PS X (.Try body [.ExceptHandler (some (.Name x np)) (some n) (b₀ :: suite) pos'] [] [] pos) (tTryA X.K c i tb ts Wout) := ps_try_as hs hf hN hi hln hc tk hb hsu
theorem x_asT {i : Nat} {ts : Addr → Value → Option Addr → TS} (hx : PySem.W.exmOne K cls c = some true)
    (q : ∀ a, H a = none → ts a cls d { nx := fun σ' H' => D.nx (σ'.set i none) H', rt := D.rt, bk := fun σ' H' => D.bk (σ'.set i none) H', ct := fun σ' H' => D.ct (σ'.set i none) H' } (σ.set i (some (.ref a))) H) : wAs K c i ts Wout D cls d σ H := ⟨true, hx, fun _ => q, fun z => nomatch z⟩
theorem x_asF {i : Nat} {ts : Addr → Value → Option Addr → TS} (hx : PySem.W.exmOne K cls c = some false) (q : Wout cls d σ H) : wAs K c i ts Wout D cls d σ H := ⟨false, hx, (fun z => nomatch z), fun _ => q⟩
/-! several except clauses -/
def tTryM (K : PySem.W.Frag) (l : List (Value × (Addr → Value → Option Addr → TS))) (tb : WX → TS) (Wout : WX) : TS := fun D σ H => tb (wMany K Wout D l) D σ H
theorem x_tryM {l : List (Value × (Addr → Value → Option Addr → TS))} {tb : WX → TS} (h : tb (wMany K Wout D l) D σ H) : tTryM K l tb Wout D σ H := h
theorem x_seqTM {l : List (Value × (Addr → Value → Option Addr → TS))} {tb : WX → TS} {u : TS} (h : tTryM K l tb Wout { D with nx := u D } σ H) : tSeq (tTryM K l tb Wout) u D σ H := h
theorem ps_tryM {body : List Stmt} {h₀ : ExceptHandler} {hds : List ExceptHandler} {l : List (Value × (Addr → Value → Option Addr → TS))} {pos : Pos} {tb : WX → TS} (hs : X.stack = X.env :: X.outer) (hf : X.env.frame = some X.env.locals) (tk : Takes X Wout)
    (hb : ∀ (W : WX) (pn : List (Addr × Obj)) (xe : Value → Shared → Prop), Takes (X.tr pn xe) W → PassesOwn (model X.prog X.w) X.A X.env xe → PSs (X.tr pn xe) body (tb W))
    (hh : HdsOk X (h₀ :: hds) l) : PS X (.Try body (h₀ :: hds) [] [] pos) (tTryM X.K l tb Wout) := ps_try_many hs hf tk hb hh
theorem x_manyT {l : List (Value × (Addr → Value → Option Addr → TS))} {ts : Addr → Value → Option Addr → TS} (hx : PySem.W.exmOne K cls c = some true) (q : ∀ a, H a = none → ts a cls d D σ H) : wMany K Wout D ((c, ts) :: l) cls d σ H := ⟨true, hx, fun _ => q, fun z => nomatch z⟩
theorem x_manyF {l : List (Value × (Addr → Value → Option Addr → TS))} {ts : Addr → Value → Option Addr → TS} (hx : PySem.W.exmOne K cls c = some false) (q : wMany K Wout D l cls d σ H) : wMany K Wout D ((c, ts) :: l) cls d σ H := ⟨false, hx, (fun z => nomatch z), fun _ => q⟩
theorem x_manyN (q : Wout cls d σ H) : wMany K Wout D [] cls d σ H := q
/-- e.f of a caught exception -/
def xfK (a : Addr) (cls : Value) (d : Option Addr) (C : Addr) (f : Str) (Q : VK) : V → Hp → Prop := fun x H1 => x = .ref a ∧ cls = .ref C ∧ ∃ (dd : Addr) (fs : List (Str × V)) (v : V), d = some dd ∧ H1 dd = some (.xd fs) ∧ fs.lookup f = some v ∧ Q v H1
theorem x_xf {f : Str} {te : TE} (h : te σ H (xfK a cls d C f Q)) : tXf a cls d C f te σ H Q := h
theorem x_xfK {f : Str} {dd : Addr} {fs : List (Str × V)} {v : V} (h : H dd = some (.xd fs)) (hl : fs.lookup f = some v) (q : Q v H) : xfK a (.ref C) (some dd) C f Q (.ref a) H := ⟨rfl, rfl, dd, fs, v, rfl, h, hl, q⟩
/-- isinstance(e, c) of a caught exception without fields -/
def rIsX (K : PySem.W.Frag) (a : Addr) (cls : Value) (d : Option Addr) : List V → Hp → VK → Prop := fun xs H Q => ∃ (E : Addr) (t : String) (b : Bool), cls = .ref E ∧ d = none ∧ ExcC K E ∧ xs = [.ref a, .ty t] ∧ PySem.W.kitOne K (.ref E) (.type t) = some b ∧ Q (.bl b) H
/-- isinstance(e, C), C an own class -/
def rIsXC (K : PySem.W.Frag) (a : Addr) (cls : Value) (d : Option Addr) : List V → Hp → VK → Prop := fun xs H Q => ∃ (E C : Addr) (b : Bool), cls = .ref E ∧ d = none ∧ ExcC K E ∧ xs = [.ref a, .ref C] ∧ PySem.W.kitOne K (.ref E) (.ref C) = some b ∧ Q (.bl b) H
theorem cr_isXC {oe : Obj} {pn : List (Addr × Obj)} (hz : Zc cls d oe) (hf : ∃ vs, oe.data = .fields vs) : CallR (X.suite a ((a, oe) :: pn)) (.builtin "isinstance") (rIsXC X.K a cls d) := by
  intro pins s σ H xs us Q I r h
  obtain ⟨E, C, b, rfl, rfl, hE, rfl, hk, q⟩ := h
  exact call_isE hE hz hf pins s σ H _ us Q I r ⟨.ref C, .ref C, b, rfl, fun u z => z, hk, q⟩
theorem x_isXC {E C : Addr} {b : Bool} (q : Q (.bl b) H) (hE : ExcC K E) (hk : PySem.W.kitOne K (.ref E) (.ref C) = some b) : rIsXC K a (.ref E) none [.ref a, .ref C] H Q := ⟨E, C, b, rfl, rfl, hE, rfl, hk, q⟩
theorem cr_isX {oe : Obj} {pn : List (Addr × Obj)} (hz : Zc cls d oe) (hf : ∃ vs, oe.data = .fields vs) : CallR (X.suite a ((a, oe) :: pn)) (.builtin "isinstance") (rIsX X.K a cls d) := by
  intro pins s σ H xs us Q I r h
  obtain ⟨E, t, b, rfl, rfl, hE, rfl, hk, q⟩ := h
  exact call_isE hE hz hf pins s σ H _ us Q I r ⟨.ty t, .type t, b, rfl, fun u z => z, hk, q⟩
theorem x_isX {E : Addr} {t : String} {b : Bool} (q : Q (.bl b) H) (hE : ExcC K E) (hk : PySem.W.kitOne K (.ref E) (.type t) = some b) : rIsX K a (.ref E) none [.ref a, .ty t] H Q := ⟨E, t, b, rfl, rfl, hE, rfl, hk, q⟩
/-! a class with an own __init__ -/
structure WInit (K : PySem.W.Frag) (W : Addr) : Prop where
  ga : PySem.W.specialIn K (.ref W) "__getattribute__" = some (some (.builtin "type.__getattribute__"))
  rd : PySem.W.readsIn K W (.type "type") = true
  fd : PySem.W.findCls K (.ref W) (.type "type") "__init__" = some (.val (.builtin "ValueError.__init__"))
theorem pe_weinit {pl : Sem Bool} {x : Str} {Wc : Addr} {e : Expr} {es : List Expr} {ta : TA} {p1 p2 pos : Pos} (w : WInit X.K Wc) (hg : Gl X x) (hm : X.mg x = some (.ref Wc)) (ha : PA X (e :: es) ta) (hdb : (x == ("__debug__" : Str)) = false := by decide)
    (hc : eval (.Call (.Attribute (.Name x p1) "__init__" p2) (e :: es) [] pos) X.env = (do
      let ov ← eval (.Name x p1) X.env
      standAt p2.atName
      let (f, first) ← holding [ov] (getMethod ov "__init__" pl)
      callWith pos f first (backTo pos (starEach (e :: es) X.env)) (backToKw pos (keywordEach [] X.env))) := by rfl)
    (he : starEach (e :: es) X.env = (false, eval e X.env) :: starEach es X.env := by rfl) (hpl : (backTo pos (starEach es X.env)).any (·.1) = false := by rfl) :
    PE X (.Call (.Attribute (.Name x p1) "__init__" p2) (e :: es) [] pos) (tVeI X.K ta) := by
  refine ⟨fun pins s σ H Q I h => ?_⟩
  refine PySem.W.methodCall_KW (ld_glob I hg hm ?_ hdb) hc
  refine PySem.W.method_cls I.kIn w.ga (PySem.W.cls_value I.kIn w.rd w.fd (by decide +kernel) ?_)
  show wpAny _ _ (callWith pos (Value.builtin "ValueError.__init__") [] (backTo pos (starEach (e :: es) X.env)) []) _ _ _
  refine PyProof.Rows.callWith_method1 (thn (ha.run pos pins _ σ H _ (I.tok _) h) fun us s1 ⟨vs, H1, I1, r1, a, C, ws, ev, hl, T, ea, q⟩ => ?_) he hpl
  subst ev
  cases r1 with
  | @cons _ u0 _ ur ra rw' =>
    obtain rfl : u0 = Value.ref a := ra
    have hlen : ur.length ≤ sizeLine := by
      rw [← Paired.length rw', sizeLine_eq]
      omega
    exact oinit_ok T I1 ea hlen fun s' J => ⟨.non, H1, J, rfl, q⟩
def veK (K : PySem.W.Frag) (Q : VK) : List V → Hp → Prop := fun vs H1 => ∃ (a C : Addr) (ws : List V), vs = .ref a :: ws ∧ ws.length ≤ 1000 ∧ OexC K C ∧ H1 a = some (exo a C none) ∧ Q .non H1
theorem x_vei {ta : TA} (h : ta σ H (veK K Q)) : tVeI K ta σ H Q := h
theorem x_veK {ws : List V} (o : OexC K C) (h : H a = some (exo a C none)) (q : Q .non H) (hl : ws.length ≤ 1000) : veK K Q (.ref a :: ws) H := ⟨a, C, ws, rfl, hl, o, h, q⟩
/-- self.f = v, the first one -/
theorem x_ost {f : Str} {to te : TE} (h : te σ H fun y H1 => to σ H1 fun x H2 => ∃ a C : Addr, x = .ref a ∧ OexC K C ∧ PySem.W.findIn K (.ref C) f = some none ∧
  ((H2 a = some (exo a C none) ∧ ∀ dx, H2 dx = none → dx ≠ a → D.nx σ (upd (upd H2 dx (exd dx [(f, y)])) a (exo a C (some dx)))) ∨
    ∃ (dx : Addr) (fs : List (Str × V)), H2 a = some (exo a C (some dx)) ∧ H2 dx = some (exd dx fs) ∧ fs.length ≤ 900 ∧ D.nx σ (upd H2 dx (exd dx ((f, y) :: fs))))) : tOst K f to te D σ H := h
/-- the spec of an exception's __init__ with one field f: what is left -/
def spXInit (K : PySem.W.Frag) (C : Addr) (f : Str) (A : V → Prop) : Sp := fun vs H Q _ => ∃ (a : Addr) (v : V), vs = [.ref a, v] ∧ A v ∧ OexC K C ∧ PySem.W.findIn K (.ref C) f = some none ∧ H a = some (exo a C none) ∧
  ∀ dx, H dx = none → dx ≠ a → Q .non (upd (upd H dx (exd dx [(f, v)])) a (exo a C (some dx)))
theorem passE0 : Passes (L2.CX X.prog X.w) X (fun _ _ _ => False) := fun _ _ _ _ _ _ _ h => by
  obtain ⟨_, _, _, _, _, _, _, _, _, _, _, _, z⟩ := h
  exact z.elim
def moK (C : Addr) (sp : Sp) (dvs : List V) (Q : XK) : List V → Hp → Prop := fun vs H1 => vs.length ≤ 1000 ∧ ∀ a, H1 a = none → sp (.ref a :: (vs ++ dvs)) (upd H1 a (exo a C none))
  (fun v H2 => v = .non ∧ ∃ (d : Addr) (fs : List (Str × V)), H2 a = some (exo a C (some d)) ∧ H2 d = some (exd d fs) ∧ H1 d = none ∧ Q (.ref C) (some d) (upd (del H2 a) d (.xd fs))) (fun _ _ _ => False)
theorem x_mkO {sp : Sp} {dvs : List V} {Q : XK} {ta : TA} (h : ta σ H (moK C sp dvs Q)) : tMkO C sp dvs ta σ H Q := h
theorem x_moK {f : Str} {v : V} {A : V → Prop} {Q : XK} (hv : A v) (q : ∀ d H1, H d = none → Same H H1 → H1 d = some (.xd [(f, v)]) → Q (.ref C) (some d) H1) (o : OexC K C) (n : PySem.W.findIn K (.ref C) f = some none) : moK C (spXInit K C f A) [] Q [v] H := by
  refine ⟨Nat.le_of_ble_eq_true rfl, fun a na => ⟨a, v, rfl, hv, o, n, upd_same, fun dx nd ne => ⟨rfl, dx, [(f, v)], upd_same, ?_, ?_, ?_⟩⟩⟩
  · rw [upd_ne ne, upd_same]
  · rw [upd_ne ne] at nd; exact nd
  · rw [upd_ne ne] at nd
    have e : upd (del (upd (upd (upd H a (exo a C none)) dx (exd dx [(f, v)])) a (exo a C (some dx))) a) dx (.xd [(f, v)]) = upd H dx (.xd [(f, v)]) := by
      funext b
      by_cases hb : b = dx
      · rw [hb, upd_same, upd_same]
      · rw [upd_ne hb, upd_ne hb]
        by_cases hba : b = a
        · rw [hba, del_same, na]
        · rw [del_ne hba, upd_ne hba, upd_ne hb, upd_ne hba]
    rw [e]
    exact q dx _ nd (same_upd nd) upd_same
end
/-! several except clauses, some of them with a name -/
section
variable {X : Cx}
/-- what a clause does with an exception at q: the slot of its name, if it has one, holds it -/
def inAs (o : Option Nat) (ts : Addr → Value → Option Addr → TS) (q : Addr) (cls : Value) (d : Option Addr) : TS := match o with
  | none => ts q cls d
  | some i => fun D σ H => ts q cls d { nx := fun σ' H' => D.nx (σ'.set i none) H', rt := D.rt, bk := fun σ' H' => D.bk (σ'.set i none) H', ct := fun σ' H' => D.ct (σ'.set i none) H' } (σ.set i (some (.ref q))) H
def wMix (K : PySem.W.Frag) (Wout : WX) (D : Ends) : List (Value × Option Nat × (Addr → Value → Option Addr → TS)) → WX
  | [] => Wout
  | (c, o, ts) :: r => fun cls d σ H => ∃ b, PySem.W.exmOne K cls c = some b ∧ (b = true → ∀ q, H q = none → inAs o ts q cls d D σ H) ∧ (b = false → wMix K Wout D r cls d σ H)
inductive Cl (X : Cx) : List ExceptHandler → List (Value × Option Nat × (Addr → Value → Option Addr → TS)) → Prop
  | nil : Cl X [] []
  | one {x : Str} {c : Value} {ts : Addr → Value → Option Addr → TS} {b₀ : Stmt} {su : List Stmt} {p1 p2 : Pos} {hs : List ExceptHandler} {l : List (Value × Option Nat × (Addr → Value → Option Addr → TS))} (nm : Names X x c)
      (k : ∀ (q : Addr) (oe : Obj) (cls : Value) (d : Option Addr) (pn : List (Addr × Obj)), Zc cls d oe → (∃ vs, oe.data = .fields vs) → PSs (X.suite q ((q, oe) :: pn)) (b₀ :: su) (ts q cls d)) (r : Cl X hs l) :
      Cl X (.ExceptHandler (some (.Name x p1)) none (b₀ :: su) p2 :: hs) ((c, none, ts) :: l)
  | asn {x n : Str} {i : Nat} {c : Value} {ts : Addr → Value → Option Addr → TS} {b₀ : Stmt} {su : List Stmt} {p1 p2 : Pos} {hs : List ExceptHandler} {l : List (Value × Option Nat × (Addr → Value → Option Addr → TS))} (hi : X.N[i]? = some n) (hl : X.env.kindOf n = some .local) (nm : Names X x c)
      (k : ∀ (q : Addr) (oe : Obj) (cls : Value) (d : Option Addr) (pn : List (Addr × Obj)), Zc cls d oe → (∃ vs, oe.data = .fields vs) → PSs (X.suite q ((q, oe) :: pn)) (b₀ :: su) (ts q cls d)) (r : Cl X hs l) :
      Cl X (.ExceptHandler (some (.Name x p1)) (some n) (b₀ :: su) p2 :: hs) ((c, some i, ts) :: l)
def tMix (K : PySem.W.Frag) (l : List (Value × Option Nat × (Addr → Value → Option Addr → TS))) (tb : WX → TS) (Wout : WX) : TS := fun D σ H => tb (wMix K Wout D l) D σ H
theorem ps_mix {body : List Stmt} {h0 : ExceptHandler} {hs : List ExceptHandler} {l : List (Value × Option Nat × (Addr → Value → Option Addr → TS))} {pos : Pos} {tb : WX → TS} {Wout : WX}
    (es : X.stack = X.env :: X.outer) (ef : X.env.frame = some X.env.locals) (nd : X.N.Nodup) (tk : Takes X Wout)
    (hb : ∀ (W : WX) (pn : List (Addr × Obj)) (xe : Value → Shared → Prop), Takes (X.tr pn xe) W → PassesOwn (model X.prog X.w) X.A X.env xe → PSs (X.tr pn xe) body (tb W))
    (cl : Cl X (h0 :: hs) l) : PS X (.Try body (h0 :: hs) [] [] pos) (tMix X.K l tb Wout) := by
  refine ⟨fun pins s σ H D I h => wpAny_Try_except ?_⟩
  have ok := I.ok
  have frs1 : X.A.frames = some (X.env :: X.outer) := by rw [ok.frames, es]
  have run := (hb (wMix X.K Wout D l) (X.pn ++ pins) (fun e z1 => wpAny (model X.prog X.w) X.A (noteFrame e X.env) (fun _ z2 => wpAny (model X.prog X.w) X.A (setFlight e none)
    (fun _ z3 => wpAny (model X.prog X.w) X.A (handleBy e X.env (h0 :: hs)) (SP X pins D) X.xe z3) X.xe z2) X.xe z1) (fun u t xx => ?_) PassesOwn.looking).run [] s σ H D (I.toTry _) h
  · refine wpAny_mono run (fun f z hz => ?_) (fun _ _ k => k)
    cases f
    · obtain ⟨σ', H', J, y⟩ := hz; exact wpAny_execs_nil ⟨σ', H', J.ofTry ok, y⟩
    · obtain ⟨σ', H', J, y⟩ := hz; exact ⟨σ', H', J.ofTry ok, y⟩
    · obtain ⟨σ', H', J, y⟩ := hz; exact ⟨σ', H', J.ofTry ok, y⟩
    · obtain ⟨v, σ', H', J, r, y⟩ := hz; exact ⟨v, σ', H', J.ofTry ok, r, y⟩
  obtain ⟨q, bs, sI, pins', τ, G, cls, d, rfl, J0, nb, u1, sk0, nq, os, ag, wish⟩ := xx
  have J : Inv X pins τ G sI := J0.ofTry ok
  have sk : Sky bs (X.env :: X.outer) q (Zc cls d) X.env.locals t.heap := by rw [← es]; exact sk0
  show wpAny (model X.prog X.w) X.A (noteFrame (.ref q) X.env) _ _ t
  refine Sky.land Zc.steady frs1 ef sk fun m fm u2 => ?_
  have Jm : Inv X pins τ G { t with heap := m } := J.landed nb fm.1 (u1.trans u2) os ag
  obtain ⟨om, vm, gm, zm, dm⟩ := fm.there
  have far : q ∉ L2.frs (X.env :: X.outer) := fun hm => by
    obtain ⟨_, o', e', hnf⟩ := fm.2.2.1.mem hm
    rw [gm] at e'; cases e'; exact hnf _ dm
  have qL : q ≠ X.env.locals := fun z => far (List.mem_filterMap.mpr ⟨X.env, List.mem_cons_self, by rw [ef, z]⟩)
  have qF : q ∉ X.fs := fun hm => by
    obtain ⟨e, he, y⟩ := List.mem_filterMap.mp hm
    exact far (List.mem_filterMap.mpr ⟨e, List.mem_cons_of_mem _ he, y⟩)
  have Sm := Jm.suite gm dm nq qL qF
  suffices go : ∀ (hs' : List ExceptHandler) (l' : List (Value × Option Nat × (Addr → Value → Option Addr → TS))), Cl X hs' l' → wMix X.K Wout D l' cls d τ G →
      wpAny (model X.prog X.w) X.A (handleBy (.ref q) X.env hs') (SP X pins D) X.xe { t with heap := m } from go _ _ cl wish
  have looks : PySem.W.Looks (model X.prog X.w) m (typeOf (.ref q)) cls := fun A Q E z k y => wpAny_typeOf_ref (k _ _ gm) (by rw [zm.1]; exact y)
  have nameIs : ∀ {x : Str} {c : Value} {p1 : Pos} {Q E : Value → Shared → Prop}, Names X x c → Q c { t with heap := m } →
      wpAny (model X.prog X.w) (X.A.mark (some (.ref q))) (eval (.Name x p1) X.env) Q E { t with heap := m } := fun nm y => by
    obtain ⟨hg, hdbg, hm | ⟨hm, hv, hnn⟩⟩ := nm
    · exact ld_glob (X := X.suite q ((q, om) :: (X.pn ++ pins))) Sm hg hm y hdbg
    · exact ld_blt (X := X.suite q ((q, om) :: (X.pn ++ pins))) Sm hg hm hv y hnn hdbg
  intro hs' l' hk
  induction hk with
  | nil =>
    intro wo
    refine wpAny_handleBy_nil ?_
    have fm' := fm
    obtain ⟨_, _, _, oe, vs, T, oT, _, g0, z0, d0, i0, _⟩ := fm'
    unfold PySem.passOn
    refine wpAny_bind (wpAny_field g0 d0 i0 ?_)
    rw [if_neg (show ¬ ((Value.ref T == Value.none) = true) by simp)]
    have out : wpAny (model X.prog X.w) X.A (setFlight (.ref q) X.env.frame) (fun _ z4 => wpAny (model X.prog X.w) X.A (throw (.ref q) : Sem Flow) (SP X pins D) X.xe z4) X.xe { t with heap := m } := by
      rw [ef]
      exact HandSPX.setFlight_upZ fm fun m4 hh4 u4 => wpAny_throw (tk _ _ ⟨q, bs, sI, pins, τ, G, cls, d, rfl, J, nb, (u1.trans u2).trans u4, .inr (.inr (by rw [es]; exact hh4)), nq, os, ag, wo⟩)
    first | exact wpAny_bind (wpAny_pure (wpAny_bind out)) | exact wpAny_bind out
  | @one x c ts b₀ su p1 p2 hs2 l2 nm k r ih =>
    intro ⟨b, hb1, yes, no⟩
    refine wpAny_handleBy_cons (codeAny_handlers_test ?_) (by intro y; cases y)
    refine nameIs nm ((PySem.W.exm_one (M := model X.prog X.w) Jm.kIn looks hb1).here ?_)
    cases b
    · show wpAny (model X.prog X.w) X.A (handleBy (.ref q) X.env hs2) _ _ _
      exact ih (no rfl)
    refine codeAny_handlers_suite (HandSPX.lands_againZ fm fun m4 f4 u4 => ?_)
    have J4 : Inv X pins τ G { t with heap := m4 } := J.landed nb f4.1 ((u1.trans u2).trans u4) os ag
    obtain ⟨o4, v4, g4, z4, d4⟩ := f4.there
    refine wpAny_mono ((k q o4 cls d (X.pn ++ pins) z4 ⟨_, d4⟩).run [] _ _ G _ (J4.suite g4 d4 nq qL qF) (yes rfl q nq)) (fun f z hz => ?_) (fun _ _ y => y.elim)
    cases f
    · obtain ⟨σ6, H6, S6, y⟩ := hz; exact ⟨_, _, S6.unsuite ok, y⟩
    · obtain ⟨σ6, H6, S6, y⟩ := hz; exact ⟨_, _, S6.unsuite ok, y⟩
    · obtain ⟨σ6, H6, S6, y⟩ := hz; exact ⟨_, _, S6.unsuite ok, y⟩
    · obtain ⟨v6, σ6, H6, S6, r6, y⟩ := hz; exact ⟨_, _, _, S6.unsuite ok, r6, y⟩
  | @asn x n i c ts b₀ su p1 p2 hs2 l2 hi hl nm k r ih =>
    intro ⟨b, hb1, yes, no⟩
    refine wpAny_handleBy_cons (codeAny_handlers_test ?_) (by intro y; cases y)
    refine nameIs nm ((PySem.W.exm_one (M := model X.prog X.w) Jm.kIn looks hb1).here ?_)
    cases b
    · show wpAny (model X.prog X.w) X.A (handleBy (.ref q) X.env hs2) _ _ _
      exact ih (no rfl)
    refine codeAny_handlers_suite_as (HandSPX.lands_againZ fm fun m4 f4 u4 => ?_)
    have J4 : Inv X pins τ G { t with heap := m4 } := J.landed nb f4.1 ((u1.trans u2).trans u4) os ag
    obtain ⟨o4, v4, g4, z4, d4⟩ := f4.there
    refine store_ok (X := X.suite q ((q, o4) :: (X.pn ++ pins))) (v := .ref q) (J4.suite g4 d4 nq qL qF) nd hi (.inl hl) rfl (fun z5 S5 => ?_) (.inr hl)
    refine wpAny_mono ((k q o4 cls d (X.pn ++ pins) z4 ⟨_, d4⟩).run [] z5 _ G _ S5 (yes rfl q nq)) (fun f z hz => ?_) (fun _ _ y => y.elim)
    have gone : ∀ {σ6 : L2.St} {H6 : Hp} {Q : Shared → Prop}, Inv (X.suite q ((q, o4) :: (X.pn ++ pins))) [] σ6 H6 z → (∀ z7, Inv X pins (σ6.set i none) H6 z7 → Q z7) →
        wpAny (model X.prog X.w) X.A (do bindName X.env n .none; unbindBehindTheSuite X.env n p2) (fun _ z7 => Q z7) X.xe z := fun S6 y => gone_ok (S6.unsuite ok) nd hi hl y
    cases f
    · obtain ⟨σ6, H6, S6, y⟩ := hz; exact gone S6 fun z7 J7 => ⟨_, _, J7, y⟩
    · obtain ⟨σ6, H6, S6, y⟩ := hz; exact gone S6 fun z7 J7 => ⟨_, _, J7, y⟩
    · obtain ⟨σ6, H6, S6, y⟩ := hz; exact gone S6 fun z7 J7 => ⟨_, _, J7, y⟩
    · obtain ⟨v6, σ6, H6, S6, r6, y⟩ := hz; exact gone S6 fun z7 J7 => ⟨_, _, _, J7, r6, y⟩
variable {K : PySem.W.Frag} {Wout : WX} {D : Ends} {σ : L2.St} {H : Hp} {cls c : Value} {d : Option Addr}
theorem x_mix {l : List (Value × Option Nat × (Addr → Value → Option Addr → TS))} {tb : WX → TS} (h : tb (wMix K Wout D l) D σ H) : tMix K l tb Wout D σ H := h
theorem x_seqMix {l : List (Value × Option Nat × (Addr → Value → Option Addr → TS))} {tb : WX → TS} {u : TS} (h : tMix K l tb Wout { D with nx := u D } σ H) : tSeq (tMix K l tb Wout) u D σ H := h
theorem x_mixT {o : Option Nat} {l : List (Value × Option Nat × (Addr → Value → Option Addr → TS))} {ts : Addr → Value → Option Addr → TS} (hx : PySem.W.exmOne K cls c = some true) (y : ∀ q, H q = none → inAs o ts q cls d D σ H) : wMix K Wout D ((c, o, ts) :: l) cls d σ H := ⟨true, hx, fun _ => y, fun z => nomatch z⟩
theorem x_mixF {o : Option Nat} {l : List (Value × Option Nat × (Addr → Value → Option Addr → TS))} {ts : Addr → Value → Option Addr → TS} (hx : PySem.W.exmOne K cls c = some false) (y : wMix K Wout D l cls d σ H) : wMix K Wout D ((c, o, ts) :: l) cls d σ H := ⟨false, hx, (fun z => nomatch z), fun _ => y⟩
theorem x_mixN (y : Wout cls d σ H) : wMix K Wout D [] cls d σ H := y
end
/-! list(reversed(x)), x a list -/
section
variable {prog : Program} {w : World} {A : Around} {E : Value → Shared → Prop} {s : Shared} {it l S : Addr} {items : Array Value}
theorem rev_ext {R : Result → Shared → Prop} {c₀ : Nat} (res : Value) (hh : A.handled = none) (hit : s.heap.IsRevIter it l ((items.size : Int) - 1)) (hl : s.heap.IsList l items) (n1 : l ≠ it) (n2 : S ≠ it) (n3 : S ≠ l) (hn : items.size ≤ sizeLine)
    (hS : s.heap.get? S = some { cls := .type "list", data := .seq #[] c₀ })
    (k : ∀ h' tk acc' c', (∀ b o, b ≠ S → b ≠ it → s.heap.get? b = some o → h'.get? b = some o) → h'.get? S = some { cls := .type "list", dict := none, data := .seq acc' c', slots := #[] } → ItemsOf (fun i v => items[items.size - 1 - i]? = some v) acc' items.size → R (.ok (.ret res)) { s with heap := h', toks := tk }) :
    wpAny (model prog w) A.in1 (Builtin.List.listExtendWith (.ref S) (.ref it) res)
      (fun fin t => match fin with | .done f => R (.ok f) t | .again c' => c'.quiet = true ∧ codeAny (model prog w) A c' R t) (fun e t => R (.error e) t) s := by
  have W := (Walks.listRev (prog := prog) (w := w) (A := A.in1) hh it l n1 items).toS
  have out : S ∉ [it, l] := by simp only [List.mem_cons, List.not_mem_nil, or_false, not_or]; exact ⟨n2, n3⟩
  have ty : s.TypeIs (.ref it) "list_reverseiterator" := Heap.IsRevIter.typeIs hit
  have e0 : ((items.size : Nat) : Int) - 1 - ((0 : Nat) : Int) = (items.size : Int) - 1 := by omega
  have apart : Builtin.List.listSameRef (.ref S) (.ref it) = false := by simp [Builtin.List.listSameRef, n2]
  unfold Builtin.List.listExtendWith
  refine wpAny_bind (wpAny_typeOf ty ?_)
  rw [if_neg (by rw [apart]; decide)]
  refine wpAny_bind (wpAny_pyIter_revIter hit (wpAny_bind (wpAny_holding ?_)))
  unfold Builtin.List.listLengthHint
  refine wpAny_bind (wpAny_specialOf ty RT.nolen_lri ?_)
  show wpAny (model prog w) A.in1 (specialOf (Value.ref it) (Str.ofString "__length_hint__") >>= _) _ _ s
  refine wpAny_bind (wpAny_specialOf ty RT.hint_lri ?_)
  generalize hid : ("list_reverseiterator.__length_hint__" : String) = name
  wp_delta
  rw [show splitId name = some ("list_reverseiterator", "__length_hint__") by subst hid; decide +kernel]
  subst hid
  refine wpAny_bind (wpAny_isInstance (b := true) ty (by rw [isSubtype_type]; kernel_rfl) (wpAny_pure ?_))
  rw [if_neg (by decide)]
  refine wpAny_pure ⟨plainId_quiet PySem.F.plain_extend_loop _, codeAny_extend_loopS W hn S out res items.size 0 _ #[] c₀ rfl (Nat.zero_le _) ⟨Nat.zero_le _, by rw [e0]; exact hit, hl⟩ hS (ItemsOf.nil _) fun t acc' c' hm hS' hacc => ?_⟩
  rw [Moved.eq_with hm]
  refine k t.heap t.toks acc' c' (fun b o b1 b2 e => hm.heap b o (fun z => ?_) e) hS' hacc
  rcases List.mem_cons.mp z with z | z
  · exact b1 z
  · exact b2 (List.mem_singleton.mp z)
end
section
variable {prog : Program} {w : World} {A : Around} {E : Value → Shared → Prop} {s : Shared} {it l : Addr} {items : Array Value}
theorem rev_init {S : Addr} {R : Result → Shared → Prop} (hh : A.handled = none) (hit : s.heap.IsRevIter it l ((items.size : Int) - 1)) (hl : s.heap.IsList l items) (n1 : l ≠ it) (n2 : S ≠ it) (n3 : S ≠ l) (hn : items.size ≤ sizeLine)
    (hS : s.heap.get? S = some { cls := .type "list", data := .seq #[] })
    (k : ∀ h' tk acc' c', (∀ b o, b ≠ S → b ≠ it → s.heap.get? b = some o → h'.get? b = some o) → h'.get? S = some { cls := .type "list", dict := none, data := .seq acc' c', slots := #[] } → ItemsOf (fun i v => items[items.size - 1 - i]? = some v) acc' items.size → R (.ok (.ret .none)) { s with heap := h', toks := tk }) :
    wpAny (model prog w) A.in1 (Builtin.«list.__init__» ⟨[.ref S, .ref it], []⟩)
      (fun fin t => match fin with | .done f => R (.ok f) t | .again c' => c'.quiet = true ∧ codeAny (model prog w) A c' R t) (fun e t => R (.error e) t) s := by
  show wpAny (model prog w) A.in1 (do let old ← Builtin.List.listItems (.ref S); Builtin.List.listUpdate (.ref S) (fun _ => #[]); letGo old.toList.reverse; Builtin.List.listExtendWith (.ref S) (.ref it) .none) _ _ s
  refine wpAny_bind ?_; unfold Builtin.List.listItems; refine wpAny_bind (wpAny_seqItems hS rfl (wpAny_pure ?_))
  show wpAny (model prog w) A.in1 (updateSeq S (fun _ => #[]) >>= fun _ => letGo (#[] : Array Value).toList.reverse >>= fun _ => Builtin.List.listExtendWith (.ref S) (.ref it) .none) _ _ s
  refine wpAny_bind (wpAny_updateSeq hS rfl (wpAny_bind (wpAny_letGo ?_)))
  have g2 := Heap.get?_update_self (Obj.mapSeq (fun _ => (#[] : Array Value))) hS rfl
  have rest : ∀ b o, b ≠ S → s.heap.get? b = some o → (s.heap.update S (Obj.mapSeq (fun _ => (#[] : Array Value)))).get? b = some o := fun b o hb e => (Heap.get?_update_other _ _ (Ne.symm hb)).trans e
  have hit2 : (s.heap.update S (Obj.mapSeq (fun _ => (#[] : Array Value)))).IsRevIter it l ((items.size : Int) - 1) := hit.at fun o e => rest _ o n2.symm e
  have hl2 : (s.heap.update S (Obj.mapSeq (fun _ => (#[] : Array Value)))).IsList l items := hl.at fun o e => rest _ o n3.symm e
  exact rev_ext (s := { s with heap := s.heap.update S (Obj.mapSeq (fun _ => (#[] : Array Value))) }) .none hh hit2 hl2 n1 n2 n3 hn g2 fun h' tk acc' c' hk hS' hacc => k h' tk acc' c' (fun b o b1 b2 e => hk b o b1 b2 (rest b o b1 e)) hS' hacc
theorem rev_list {Q : Value → Shared → Prop} (hh : A.handled = none) (hit : s.heap.IsRevIter it l ((items.size : Int) - 1)) (hl : s.heap.IsList l items) (n1 : l ≠ it) (hn : items.size ≤ sizeLine)
    (k : ∀ h' tk acc' c', (∀ b o, b ≠ it → s.heap.get? b = some o → h'.get? b = some o) → h'.get? s.heap.objs.size = some { cls := .type "list", dict := none, data := .seq acc' c', slots := #[] } → ItemsOf (fun i v => items[items.size - 1 - i]? = some v) acc' items.size → Q (.ref s.heap.objs.size) { s with heap := h', toks := tk }) :
    wpAny (model prog w) A (call (.type "list") [.ref it]) Q E s := by
  have n2 : s.heap.objs.size ≠ it := Nat.ne_of_gt (let ⟨_, e, _⟩ := hit; Heap.lt_size e)
  have n3 : s.heap.objs.size ≠ l := Nat.ne_of_gt (let ⟨_, e, _⟩ := hl; Heap.lt_size e)
  refine callType_codes (Q₁ := fun v t => v = .ref s.heap.objs.size ∧ t = { s with heap := s.heap.push { cls := .type "list", data := .seq #[] } }) PySem.F.called_list (PySem.F.typeCall_list_1 _) PySem.F.entry_list_init (code_list_new _ ⟨rfl, rfl⟩) fun v t h => ?_
  obtain ⟨rfl, rfl⟩ := h
  have g : (s.heap.push { cls := .type "list", data := .seq #[] }).get? s.heap.objs.size = some { cls := .type "list", data := .seq #[] } := Heap.get?_push_size _ rfl
  refine ⟨⟨_, g, rfl⟩, PySem.F.args_list_init_2 _ _, rev_init (A := A.in1) (s := { s with heap := s.heap.push { cls := .type "list", data := .seq #[] } }) hh (hit.at fun o e => Heap.get?_push_of_some _ e) (hl.push _) n1 n2 n3 hn g fun h' tk acc' c' hk hS' hacc => ?_⟩
  exact ⟨rfl, k h' tk acc' c' (fun b o hb e => hk b o (Nat.ne_of_lt (Heap.lt_size e)) hb (Heap.get?_push_of_some _ e)) hS' hacc⟩
end
section
variable {X : Cx}
def tListRev (K : PySem.W.Frag) (te : TE) : TE := fun σ H Q => te σ H fun v H1 => ∃ (a : Addr) (xs : List V), v = .ref a ∧ SqL K H1 a xs ∧ ∀ q, H1 q = none → Q (.ref q) (upd H1 q (.lst xs.reverse))
theorem pe_listRev {e : Expr} {te : TE} {p p2 pos pos2 : Pos} (hg : Gl X "list") (hm : X.mg "list" = none) (hg2 : Gl X "reversed") (hm2 : X.mg "reversed" = none) (he : PE X e te) (hc : X.calm = true := by rfl)
    (s1 : starEach [e] X.env = (false, eval e X.env) :: starEach [] X.env := by rfl)
    (s2 : starEach [.Call (.Name "reversed" p2) [e] [] pos2] X.env = (false, eval (.Call (.Name "reversed" p2) [e] [] pos2) X.env) :: starEach [] X.env := by rfl) :
    PE X (.Call (.Name "list" p) [.Call (.Name "reversed" p2) [e] [] pos2] [] pos) (tListRev X.K te) := by
  constructor; intro pins s σ H Q I h
  refine Call_ (ld_blt I hg hm boot_list (PyProof.Rows.callWith_type1 (args_cons (Call_ (ld_blt I hg2 hm2 PyProof.Rows.boot_reversed (PyProof.Rows.callWith_type1 (args_cons (thn (he.run pins s σ H _ I h) fun u t ⟨v, H1, I1, r1, q1⟩ => args_nil ?_) s1) s1 rfl))) s2) s2 rfl))
  obtain ⟨a, xs, ev, hq, q⟩ := q1; subst ev
  obtain rfl : u = Value.ref a := r1
  obtain ⟨its, rv, pl, hz⟩ := I1.list hq
  refine call_reversed_list pl.isList ?_; refine args_nil ?_
  obtain ⟨ol, hol, _⟩ := id pl.isList
  have n1 : a ≠ t.heap.objs.size := Nat.ne_of_lt (Heap.lt_size hol)
  have hn : its.toArray.size ≤ sizeLine := by rw [List.size_toArray, ← rv.length]; exact hz
  refine rev_list (s := { t with heap := t.heap.push (revObj a ((its.toArray.size : Int) - 1)) }) (I1.ok.hd hc) ⟨_, Heap.get?_push_size _ rfl, rfl, rfl⟩ (pl.isList.push _) n1 hn fun h' tk acc c' hk hS hi => ?_
  have sz : (t.heap.push (revObj a ((its.toArray.size : Int) - 1))).objs.size = t.heap.objs.size + 1 := by simp [Heap.push]
  have keep : ∀ b o, t.heap.get? b = some o → h'.get? b = some o := fun b o e => hk b o (Nat.ne_of_lt (Heap.lt_size e)) (Heap.get?_push_of_some _ e)
  refine ⟨.ref (t.heap.push (revObj a ((its.toArray.size : Int) - 1))).objs.size, upd H1 _ (.lst xs.reverse), I1.laid (t' := tk) keep (a := (t.heap.push (revObj a ((its.toArray.size : Int) - 1))).objs.size) (by rw [sz]; exact Nat.le_succ _) (show ObjOk X.prog X.w _ _ _ (.lst xs.reverse) from ⟨by rw [List.length_reverse]; exact hz, acc.toList, c', RT.vals_rev rv hi, ?_⟩), rfl, q _ (I1.hok.fresh (by rw [sz]; exact Nat.le_succ _))⟩
  rw [hS]
def lrK (K : PySem.W.Frag) (Q : VK) : V → Hp → Prop := fun v H1 => ∃ (a : Addr) (xs : List V), v = .ref a ∧ SqL K H1 a xs ∧ ∀ q, H1 q = none → Q (.ref q) (upd H1 q (.lst xs.reverse))
theorem x_listRev {K : PySem.W.Frag} {te : TE} {σ : L2.St} {H : Hp} {Q : VK} (h : te σ H (lrK K Q)) : tListRev K te σ H Q := h
theorem x_lrK {K : PySem.W.Frag} {H : Hp} {a : Addr} {xs : List V} {Q : VK} (h : SqL K H a xs) (q : New H Q (.lst xs.reverse)) : lrK K Q (.ref a) H := ⟨a, xs, rfl, h, q.mk⟩
end
/-! sorted pairs of numbers -/
theorem perm_sorted_eq {α : Type} {r : α → α → Prop} (anti : ∀ a b, r a b → r b a → a = b) : ∀ {l m : List α}, l.Perm m → l.Pairwise r → m.Pairwise r → l = m
  | [], m, h, _, _ => (List.nil_perm.mp h).symm
  | a :: l, [], h, _, _ => absurd h.symm (by intro z; exact absurd (List.nil_perm.mp z) (by simp))
  | a :: l, b :: m, h, h1, h2 => by
    have h1' := List.pairwise_cons.mp h1
    have h2' := List.pairwise_cons.mp h2
    have e : a = b := by
      rcases List.mem_cons.mp (h.mem_iff.mp List.mem_cons_self) with e | e
      · exact e
      rcases List.mem_cons.mp (h.symm.mem_iff.mp List.mem_cons_self) with e2 | e2
      · exact e2.symm
      · exact anti a b (h1'.1 b e2) (h2'.1 a e)
    subst e
    rw [perm_sorted_eq anti (List.Perm.cons_inv h) h1'.2 h2'.2]
def leP (a b : Int × Int) : Bool := !SrtO.lexB b a
def sortP (l : List (Int × Int)) : List (Int × Int) := l.mergeSort leP
theorem leP_iff {a b : Int × Int} : leP a b = true ↔ a.1 < b.1 ∨ (a.1 = b.1 ∧ a.2 ≤ b.2) := by
  unfold leP
  rw [Bool.not_eq_true', SrtO.lexB_no]
  omega
theorem sortP_pw (l : List (Int × Int)) : (sortP l).Pairwise fun a b => leP a b = true :=
  List.pairwise_mergeSort (fun a b c h1 h2 => by rw [leP_iff] at h1 h2 ⊢; omega) (fun a b => by
    rw [Bool.or_eq_true, leP_iff, leP_iff]; omega) l
theorem sortP_eq {ys l : List (Int × Int)} (hp : ys.Perm l) (hs : ys.Pairwise fun a b => leP a b = true) : ys = sortP l :=
  perm_sorted_eq (fun a b h1 h2 => by
    rw [leP_iff] at h1 h2
    exact Prod.ext (by omega) (by omega)) (hp.trans (List.mergeSort_perm l leP).symm) hs (sortP_pw l)
theorem sortP_perm (l : List (Int × Int)) : (sortP l).Perm l := List.mergeSort_perm l leP
/-- a list of tuples of two numbers each -/
def PairL (H : Hp) (xs : List V) (l : List (Int × Int)) : Prop := xs.length = l.length ∧ ∀ (i : Nat) x e, xs[i]? = some x → l[i]? = some e → ∃ t, x = .ref t ∧ H t = some (.tup [.int e.1, .int e.2])
theorem PairL.mono {H H' : Hp} {xs : List V} {l : List (Int × Int)} (s : TupS H H') (h : PairL H xs l) : PairL H' xs l := ⟨h.1, fun i x e h1 h2 => by
  obtain ⟨t, q, h⟩ := h.2 i x e h1 h2
  exact ⟨t, q, s _ _ h⟩⟩
theorem PairL.nil {H : Hp} : PairL H [] [] := ⟨rfl, fun i x e h _ => by simp at h⟩
theorem PairL.snoc {H : Hp} {xs : List V} {l : List (Int × Int)} {v : V} {e : Int × Int} (h : PairL H xs l) (hv : ∃ t, v = .ref t ∧ H t = some (.tup [.int e.1, .int e.2])) : PairL H (xs ++ [v]) (l ++ [e]) := by
  refine ⟨by simp [h.1], fun i x y h1 h2 => ?_⟩
  by_cases hi : i < xs.length
  · rw [List.getElem?_append_left hi] at h1
    rw [List.getElem?_append_left (h.1 ▸ hi)] at h2
    exact h.2 i x y h1 h2
  · have e1 : i = xs.length := by
      have := (List.getElem?_eq_some_iff.mp h1).1
      simp at this
      omega
    subst e1
    rw [List.getElem?_append_right (Nat.le_refl _)] at h1
    rw [h.1, List.getElem?_append_right (Nat.le_refl _)] at h2
    simp at h1 h2
    subst h1 h2
    exact hv
def pairV (H : Hp) : V → Int × Int
  | .ref t => match H t with
    | some (.tup [.int i, .int j]) => (i, j)
    | _ => (0, 0)
  | _ => (0, 0)
theorem pairV_ref {H : Hp} {t : Addr} {i j : Int} (h : H t = some (.tup [.int i, .int j])) : pairV H (.ref t) = (i, j) := by
  unfold pairV
  simp only [h]
theorem PairL.map {H : Hp} {xs : List V} {l : List (Int × Int)} (h : PairL H xs l) : xs.map (pairV H) = l := by
  refine List.ext_getElem? fun i => ?_
  rw [List.getElem?_map]
  cases e1 : xs[i]? with
  | none =>
    have := h.1
    rw [List.getElem?_eq_none_iff] at e1
    rw [List.getElem?_eq_none (by omega)]
    rfl
  | some x =>
    have hl := (List.getElem?_eq_some_iff.mp e1).1
    obtain ⟨e, e2⟩ : ∃ e, l[i]? = some e := ⟨_, List.getElem?_eq_getElem (by have := h.1; omega)⟩
    obtain ⟨t, rfl, ht⟩ := h.2 i x e e1 e2
    rw [e2, Option.map_some, pairV_ref ht]
theorem PairL.mem {H : Hp} {xs : List V} {l : List (Int × Int)} (h : PairL H xs l) {x : V} (hx : x ∈ xs) : ∃ t, x = .ref t ∧ H t = some (.tup [.int (pairV H x).1, .int (pairV H x).2]) := by
  obtain ⟨i, e1⟩ := List.mem_iff_getElem?.mp hx
  have hl := (List.getElem?_eq_some_iff.mp e1).1
  obtain ⟨e, e2⟩ : ∃ e, l[i]? = some e := ⟨_, List.getElem?_eq_getElem (by have := h.1; omega)⟩
  obtain ⟨t, rfl, ht⟩ := h.2 i x e e1 e2
  exact ⟨t, rfl, by rw [pairV_ref ht]; exact ht⟩
/-! sorted tuples of whole numbers, fewer than 64 -/
theorem code_cons {B d e : Int} {r q : List Int} (hl : r.length = q.length) (h1 : TS.Bd B (d :: r)) (h2 : TS.Bd B (e :: q)) (h : TS.code B (d :: r) ≤ TS.code B (e :: q)) : d < e ∨ (d = e ∧ TS.code B r ≤ TS.code B q) := by
  rcases Int.lt_trichotomy d e with z | z | z
  · exact .inl z
  · refine .inr ⟨z, ?_⟩
    subst z
    by_cases y : TS.code B q < TS.code B r
    · have := (TS.code_same (B := B) (d := d) (r := q) (q := r) hl.symm).mpr y
      omega
    · exact Int.not_lt.mp y
  · have := TS.code_lt (B := B) hl.symm h2.tail h1.tail z
    omega
/-- a list of tuples of whole numbers -/
def TupL (H : Hp) (xs : List V) (ls : List (List Int)) : Prop := xs.length = ls.length ∧ ∀ (i : Nat) x e, xs[i]? = some x → ls[i]? = some e → ∃ t, x = .ref t ∧ H t = some (.tup (e.map V.int))
theorem TupL.mono {H H' : Hp} {xs : List V} {l : List (List Int)} (s : TupS H H') (h : TupL H xs l) : TupL H' xs l := ⟨h.1, fun i x e h1 h2 => by
  obtain ⟨t, q, h⟩ := h.2 i x e h1 h2
  exact ⟨t, q, s _ _ h⟩⟩
theorem TupL.nil {H : Hp} : TupL H [] [] := ⟨rfl, fun i x e h _ => by simp at h⟩
theorem TupL.snoc {H : Hp} {xs : List V} {l : List (List Int)} {v : V} {e : List Int} (h : TupL H xs l) (hv : ∃ t, v = .ref t ∧ H t = some (.tup (e.map V.int))) : TupL H (xs ++ [v]) (l ++ [e]) := by
  refine ⟨by simp [h.1], fun i x y h1 h2 => ?_⟩
  by_cases hi : i < xs.length
  · rw [List.getElem?_append_left hi] at h1
    rw [List.getElem?_append_left (h.1 ▸ hi)] at h2
    exact h.2 i x y h1 h2
  · have e1 : i = xs.length := by
      have := (List.getElem?_eq_some_iff.mp h1).1
      simp at this
      omega
    subst e1
    rw [List.getElem?_append_right (Nat.le_refl _)] at h1
    rw [h.1, List.getElem?_append_right (Nat.le_refl _)] at h2
    simp at h1 h2
    subst h1 h2
    exact hv
theorem TupL.take {H : Hp} {ws : List V} {is : List (List Int)} (h : TupL H ws is) (m : Nat) : TupL H (ws.take m) (is.take m) := ⟨by rw [List.length_take, List.length_take, h.1], fun i x e h1 h2 => by
  rw [List.getElem?_take] at h1 h2
  split at h1
  · rename_i hi
    rw [if_pos hi] at h2
    exact h.2 i x e h1 h2
  · cases h1⟩
def vInt : V → Int
  | .int n => n
  | _ => 0
theorem vInt_map (e : List Int) : (e.map V.int).map vInt = e := by
  rw [List.map_map]
  exact List.map_id'' (fun _ => rfl) e
def tupV (H : Hp) : V → List Int
  | .ref t => match H t with
    | some (.tup vs) => vs.map vInt
    | _ => []
  | _ => []
theorem tupV_ref {H : Hp} {t : Addr} {e : List Int} (h : H t = some (.tup (e.map V.int))) : tupV H (.ref t) = e := by
  unfold tupV
  simp only [h]
  exact vInt_map e
theorem TupL.get {H : Hp} {xs : List V} {l : List (List Int)} (h : TupL H xs l) {i : Nat} {x : V} (hi : xs[i]? = some x) : ∃ e t, l[i]? = some e ∧ x = .ref t ∧ H t = some (.tup (e.map V.int)) := by
  have hl := (List.getElem?_eq_some_iff.mp hi).1
  obtain ⟨e, e2⟩ : ∃ e, l[i]? = some e := ⟨_, List.getElem?_eq_getElem (by have := h.1; omega)⟩
  obtain ⟨t, rfl, ht⟩ := h.2 i x e hi e2
  exact ⟨e, t, e2, rfl, ht⟩
theorem TupL.map {H : Hp} {xs : List V} {l : List (List Int)} (h : TupL H xs l) : xs.map (tupV H) = l := by
  refine List.ext_getElem? fun i => ?_
  rw [List.getElem?_map]
  cases e1 : xs[i]? with
  | none =>
    have := h.1
    rw [List.getElem?_eq_none_iff] at e1
    rw [List.getElem?_eq_none (by omega)]
    rfl
  | some x =>
    obtain ⟨e, t, e2, rfl, ht⟩ := h.get e1
    rw [e2, Option.map_some, tupV_ref ht]
theorem TupL.mem {H : Hp} {xs : List V} {l : List (List Int)} (h : TupL H xs l) {x : V} (hx : x ∈ xs) : tupV H x ∈ l ∧ ∃ t, x = .ref t ∧ H t = some (.tup ((tupV H x).map V.int)) := by
  obtain ⟨i, e1⟩ := List.mem_iff_getElem?.mp hx
  obtain ⟨e, t, e2, rfl, ht⟩ := h.get e1
  rw [tupV_ref ht]
  exact ⟨List.mem_of_getElem? e2, t, rfl, ht⟩
theorem x_sortT {K : PySem.W.Frag} {H : Hp} {a : Addr} {xs : List V} {ls : List (List Int)} {d : Nat} {B : Int} {Q : VK} (h : SqL K H a xs) (hx : TupL H xs ls) (hn : ls.length < 64) (hb : ∀ e ∈ ls, e.length = d ∧ TS.Bd B e)
    (q : ∀ p ys ls' H', H p = none → Same H H' → H' p = some (.lst ys) → TupL H' ys ls' → ls'.Perm ls → ls'.Pairwise (fun a b => TS.code B a ≤ TS.code B b) → Q (.ref p) H') : rSortU K d B [.ref a] H Q := by
  have tu : ∀ x ∈ xs, TupI K H x (tupV H x) := fun x hm => by
    obtain ⟨_, t, e, ht⟩ := hx.mem hm
    exact ⟨t, e, SqT.of ht⟩
  refine ⟨a, xs, rfl, h, by rw [hx.1]; exact hn, fun x hm => ?_, fun ys p hp hs hpn => ?_⟩
  · obtain ⟨hi, t, e, ht⟩ := hx.mem hm
    exact ⟨tupV H x, ⟨t, e, SqT.of ht⟩, hb _ hi⟩
  · refine q p ys (ys.map (tupV H)) _ hpn (same_upd hpn) upd_same ⟨by rw [List.length_map], fun i x e h1 h2 => ?_⟩ ?_ ?_
    · rw [List.getElem?_map, h1] at h2
      simp at h2
      subst h2
      obtain ⟨_, t, e1, ht⟩ := hx.mem (hp.mem_iff.mp (List.mem_of_getElem? h1))
      exact ⟨t, e1, same_upd hpn _ _ ht⟩
    · rw [← hx.map]
      exact hp.map _
    · refine List.pairwise_map.mpr (List.Pairwise.imp_of_mem (fun {x y} hx' hy' z => ?_) hs)
      exact z _ _ (tu x (hp.mem_iff.mp hx')) (tu y (hp.mem_iff.mp hy'))
/-- sorted(d), d a dict of fewer than 64 numbers -/
def rSDI : List V → Hp → VK → Prop := fun xs H Q => ∃ (a : Addr) (kvs : List (L2.Key × V)) (ks : List Int), xs = [.ref a] ∧ Rd H a (.dK kvs) ∧ kvs.map (·.1) = ks.map Sum.inl ∧ ks.length < 64 ∧
    ∀ (ys : List Int) (p : Addr), ys.Perm ks → ys.Pairwise (· ≤ ·) → H p = none → Q (.ref p) (upd H p (.lst (ys.map V.int)))
def uSorted (K : PySem.W.Frag) : List V → Hp → VK → Prop := fun xs H Q => rSorted K xs H Q ∨ (rSortedPO K xs H Q ∨ (rSortedI K xs H Q ∨ rSDI xs H Q))
theorem cr_usorted {X : Cx} (hc : X.calm = true := by rfl) : CallR X (.builtin "sorted") (uSorted X.K) := cr_sorted.or (cr_sortedPO.or (cr_sortedI.or (call_sortedDI hc)))
theorem x_sortP {K : PySem.W.Frag} {H : Hp} {a : Addr} {xs : List V} {l : List (Int × Int)} {Q : VK} (h : SqL K H a xs) (hx : PairL H xs l) (q : ∀ p ys H', H p = none → Same H H' → H' p = some (.lst ys) → PairL H' ys (sortP l) → Q (.ref p) H') : uSorted K [.ref a] H Q := by
  refine .inr (.inl ⟨a, xs, pairV H, rfl, h, fun x m => hx.mem m, fun ys p hs hb hp => ?_⟩)
  have hm : ys.map (pairV H) = sortP l := sortP_eq (by rw [← hx.map]; exact hb.perm.map _) (List.pairwise_map.mpr (hs.imp fun {a b} z => by
    unfold leP
    rw [show SrtO.lexB (pairV H b) (pairV H a) = false from z]
    rfl))
  refine q p ys _ hp (same_upd hp) upd_same ⟨by rw [← hm, List.length_map], fun i x e h1 h2 => ?_⟩
  rw [← hm, List.getElem?_map, h1] at h2
  simp at h2
  subst h2
  obtain ⟨t, e1, ht⟩ := hx.mem (hb.perm.mem_iff.mp (List.mem_of_getElem? h1))
  exact ⟨t, e1, same_upd hp _ _ ht⟩
/-! sorted numbers -/
def sortZ (l : List Int) : List Int := l.mergeSort fun a b => decide (a ≤ b)
theorem sortZ_pw (l : List Int) : (sortZ l).Pairwise (· ≤ ·) :=
  (List.pairwise_mergeSort (le := fun a b : Int => decide (a ≤ b)) (fun a b c h1 h2 => by simp only [decide_eq_true_eq] at h1 h2 ⊢; omega) (fun a b => by
    simp only [Bool.or_eq_true, decide_eq_true_eq]; omega) l).imp fun h => of_decide_eq_true h
theorem sortZ_perm (l : List Int) : (sortZ l).Perm l := List.mergeSort_perm l _
theorem sortZ_eq {ys l : List Int} (hp : ys.Perm l) (hs : ys.Pairwise (· ≤ ·)) : ys = sortZ l :=
  perm_sorted_eq (fun a b h1 h2 => Int.le_antisymm h1 h2) (hp.trans (sortZ_perm l).symm) hs (sortZ_pw l)
theorem x_sortI {K : PySem.W.Frag} {H : Hp} {a : Addr} {ns : List Int} {Q : VK} (h : SqL K H a (ns.map V.int)) (q : ∀ p H', H p = none → Same H H' → H' p = some (.lst ((sortZ ns).map V.int)) → Q (.ref p) H') : uSorted K [.ref a] H Q :=
  .inr (.inr (.inl ⟨a, ns, rfl, h, fun ys p hp hs hn => by rw [sortZ_eq hp hs]; exact q p _ hn (same_upd hn) upd_same⟩))
theorem x_sortD {K : PySem.W.Frag} {H : Hp} {a : Addr} {kvs : List (L2.Key × V)} {ks : List Int} {Q : VK} (h : H a = some (.dK kvs)) (hk : kvs.map (·.1) = ks.map Sum.inl) (hl : ks.length < 64) (q : ∀ p H', H p = none → Same H H' → H' p = some (.lst ((sortZ ks).map V.int)) → Q (.ref p) H') : uSorted K [.ref a] H Q :=
  .inr (.inr (.inr ⟨a, kvs, ks, rfl, .inl h, hk, hl, fun ys p hp hs hn => by rw [sortZ_eq hp hs]; exact q p _ hn (same_upd hn) upd_same⟩))
/-! a comprehension over the keys of a dict -/
section
variable {σ : L2.St} {H : Hp} {g : TG} {tt : TT} {te td : TE} {vs : List Nat} {a : Addr} {Q : VK} {kvs : List (L2.Key × V)} {od : Obj}
def lcKy (g : TG) (tt : TT) (te : TE) (vs : List Nat) (σ : L2.St) (Q : VK) : V → Hp → Prop := fun x H1 => ∃ d o, x = .ref d ∧ ((∃ kvs, H1 d = some (.frz o (.dK kvs)) ∧ lcK (Itk d o kvs) g tt te vs σ Q H1) ∨ ∃ kvs, H1 d = some (.frz o (.dT kvs)) ∧ lcK (Itkt d o kvs) g tt te vs σ Q H1)
theorem x_lcKyK (hq : H a = some (.frz od (.dK kvs))) (A : Nat → List V → Hp → Prop) (hA : ∀ i acc H H', TupS H H' → A i acc H → A i acc H') (hn : kvs.length < sizeLine) (h0 : A 0 [] H)
    (hs : ∀ i k v acc H', kvs[i]? = some (k, v) → Same H H' → A i acc H' → LcTurn g tt te vs σ A i (kV k) acc H')
    (hd : ∀ p acc H', H p = none → Same H H' → H' p = some (.lst acc) → A kvs.length acc H' → Q (.ref p) H') : lcKy g tt te vs σ Q (.ref a) H :=
  ⟨a, od, rfl, .inl ⟨kvs, hq, lc_gen (fun i x => ∃ k v, kvs[i]? = some (k, v) ∧ x = kV k) A hA hn h0 (fun Pv Dr hP p0 ht hd => lc_it walk_keys Pv p0 (fun i H' _ p => hP i H' p _ _ hq) (fun i x H' H'' hi p y => by
    obtain ⟨rfl, k, v, e, rfl⟩ := y
    exact ht i _ _ ⟨k, v, e, rfl⟩ p) hd) (fun i x acc H' ⟨k, v, e, hx⟩ s ha => by rw [hx]; exact hs i k v acc H' e s ha) (fun i x ⟨k, v, e, _⟩ => (List.getElem?_eq_some_iff.mp e).1) hd⟩⟩
theorem x_lcDK (h : H a = some (.dK kvs)) (htd : ∀ (od : Obj) (Q' : VK), Q' (.ref a) (upd H a (.frz od (.dK kvs))) → td σ (upd H a (.frz od (.dK kvs))) Q') (A : Nat → List V → Hp → Prop) (hA : ∀ i acc H H', TupS H H' → A i acc H → A i acc H') (hn : kvs.length < sizeLine) (h0 : A 0 [] H)
    (hs : ∀ i k v acc H', kvs[i]? = some (k, v) → Off [a] H H' → (∃ od, H' a = some (.frz od (.dK kvs))) → A i acc H' → LcTurn g tt te vs σ A i (kV k) acc H')
    (hd : ∀ p acc H', H p = none → Same H H' → H' p = some (.lst acc) → A kvs.length acc H' → Q (.ref p) H') : tLockE (tLc (iKeys td) g tt te vs) σ H Q := by
  refine ⟨a, .dK kvs, h, trivial, fun od => htd od _ ?_⟩
  have tu : TupS H (upd H a (.frz od (.dK kvs))) := TupS.upd h (fun _ z => by cases z)
  have key := x_lcKyK (g := g) (tt := tt) (te := te) (vs := vs) (σ := σ) (Q := fun v H' => H' a = some (.frz od (.dK kvs)) ∧ Q v (upd H' a (.dK kvs))) (H := upd H a (.frz od (.dK kvs))) (od := od) upd_same A hA hn (hA _ _ _ _ tu h0) (fun i k v acc H' e s ha => hs i k v acc H' e (fun b o nb eb => s b o (by rw [upd_ne (fun z => nb (by rw [z]; exact List.mem_singleton.mpr rfl))]; exact eb)) ⟨od, s _ _ upd_same⟩ ha) (fun p acc H' hp s hn ha => by
  refine ⟨s _ _ upd_same, ?_⟩
  have hpa : p ≠ a := fun z => by
    rw [z, upd_same] at hp
    cases hp
  rw [upd_ne hpa] at hp
  refine hd p acc _ hp (fun b o e => ?_) (by rw [upd_ne hpa]; exact hn) (hA _ _ _ _ (TupS.upd (s _ _ upd_same) (fun _ z => by cases z)) ha)
  by_cases hb : b = a
  · rw [hb, h] at e
    rw [hb, upd_same]
    exact e
  · rw [upd_ne hb]
    exact s b o (by rw [upd_ne hb]; exact e))
  exact key
theorem x_dgIf {n : Int} {v : V} (h : ∃ od, H a = some (.frz od (.dK kvs))) (hv : valV kvs (.inl n) = some v) (q : Q v H) : dgK (.ref a) Q (.int n) H := by
  obtain ⟨od, h⟩ := h
  exact ⟨a, v, rfl, .inl ⟨kvs, .inl n, .inr ⟨od, h⟩, rfl, by rw [hv]⟩, q⟩
end
/-! min of a list of pairs of numbers -/
section
variable {prog : Program} {w : World} {A : Around} {R : Result → Shared → Prop} {I : Addr} {fp wr : List Addr} {n : Nat} {P : Nat → Value → Prop} {St : Nat → Heap → Prop}
/-- what stays but for the walk's own and the list at S -/
def KeepsB (wr : List Addr) (S : Addr) (h0 h : Heap) : Prop := ∀ b o, b ∉ wr → b ≠ S → h0.get? b = some o → h.get? b = some o
theorem KeepsB.more {S : Addr} {h0 h h2 : Heap} (a : KeepsB wr S h0 h) (k : ∀ b o, b ∉ wr → h.get? b = some o → h2.get? b = some o) : KeepsB wr S h0 h2 := fun b o n1 n2 e => k b o n1 (a b o n1 n2 e)
theorem KeepsB.put {S : Addr} {h0 h : Heap} {f : Obj → Obj} (a : KeepsB wr S h0 h) : KeepsB wr S h0 (h.update S f) := fun b o n1 n2 e => (Heap.get?_update_other _ _ (Ne.symm n2)).trans (a b o n1 n2 e)
theorem min_turns (W : Walks prog w A.in1 I fp wr n P St) (bt : Nat → Nat → Bool) (S : Addr) (far : S ∉ fp) (kw : List (Str × Value)) (h0 : Heap)
    (less : ∀ (t : Shared) (i j : Nat) (x y : Value) (Q E : Value → Shared → Prop), KeepsB wr S h0 t.heap → P i x → P j y → Q (.bool (bt i j)) t → wpAny (model prog w) A.in1 (richCompare .Lt x y) Q E t) :
    ∀ (m j : Nat) (s : Shared) (best : Value) (c : Nat), n - (j + 1) = m → j + 1 ≤ n → St (j + 1) s.heap → P (argBest bt j) best → KeepsB wr S h0 s.heap → s.heap.get? S = some { cls := .type "list", dict := none, data := .seq #[best, best] c, slots := #[] } →
      (∀ v h' tk, P (argBest bt (n - 1)) v → KeepsB wr S h0 h' → R (.ok (.ret v)) { s with heap := h', toks := tk }) → codeAny (model prog w) A (.builtin "min.loop" ⟨[.ref I, .none, .ref S], kw⟩) R s := by
  have farw : S ∉ wr := fun h => far (W.sub _ h)
  have nm : (toString "min" ++ toString ".loop" : String) = "min.loop" := by decide
  intro m; induction m with
  | zero =>
    intro j s best c hm hj hst hb kp hS fin
    have hin : j + 1 = n := by omega
    refine codeAny_builtin PySem.F.entry_min_loop ?_; rw [Around.under_plainId PySem.F.plain_min_loop _]
    show wpAny _ A.in1 (seqItems? (Value.ref S) >>= _) _ _ s
    refine wpAny_bind (wpAny_seqItems hS rfl ?_); show wpAny _ A.in1 (tryCatch (pyNext (Value.ref I)) _ >>= _) _ _ s
    refine wpAny_bind (wpAny_tryCatch (W.done s _ _ (hin ▸ hst) fun h2 tk2 k2 => ?_)); have hS2 := k2 S _ farw hS
    show wpAny _ A.in1 (updateSeq S (fun _ => #[]) >>= _) _ _ { s with heap := h2, toks := tk2 }
    refine wpAny_bind ?_; refine wpAny_updateSeq hS2 rfl (wpAny_bind (wpAny_letGo (wpAny_pure (fin best _ tk2 ?_ (kp.more k2).put))))
    rw [← hin]; exact hb
  | succ m ih =>
    intro j s best c hm hj hst hb kp hS fin
    have hlt : j + 1 < n := by omega
    refine codeAny_builtin PySem.F.entry_min_loop ?_; rw [Around.under_plainId PySem.F.plain_min_loop _]
    show wpAny _ A.in1 (seqItems? (Value.ref S) >>= _) _ _ s
    refine wpAny_bind (wpAny_seqItems hS rfl ?_); show wpAny _ A.in1 (tryCatch (pyNext (Value.ref I)) _ >>= _) _ _ s
    refine wpAny_bind (wpAny_tryCatch (W.item (j + 1) s _ _ hlt hst fun x h2 tk2 hx hst2 k2 => ?_)); have hS2 := k2 S _ farw hS
    have kp2 := kp.more k2
    show wpAny _ A.in1 (tryCatch (holding [x, x] (richCompare .Lt x best >>= _)) _ >>= _) _ _ { s with heap := h2, toks := tk2 }
    refine wpAny_bind (wpAny_tryCatch (wpAny_holding (wpAny_bind (less _ (j + 1) (argBest bt j) x best _ _ kp2 hx hb ?_)))); refine wpAny_bind (wpAny_holding (wpAny_truthy_bool ?_))
    refine wpAny_bind (wpAny_letGo (wpAny_pure ?_)); cases he : bt (j + 1) (argBest bt j) with
    | true =>
      simp only [if_true]; refine wpAny_bind ?_; refine wpAny_updateSeq hS2 rfl (wpAny_bind (wpAny_letGo ?_)); rw [nm]
      refine wpAny_pure ⟨plainId_quiet PySem.F.plain_min_loop _, ih (j + 1) _ x _ (by omega) hlt (W.frame _ _ _ hst2 fun b hbf o e => ?_) ?_ kp2.put (Heap.get?_update_self _ hS2 rfl) fin⟩
      · exact (Heap.get?_update_other _ _ (fun z : S = b => far (z ▸ hbf))).trans e
      · simp only [argBest, he, if_true]; exact hx
    | false =>
      simp only [Bool.false_eq_true, if_false]; refine wpAny_bind (wpAny_letGo ?_); rw [nm]
      refine wpAny_pure ⟨plainId_quiet PySem.F.plain_min_loop _, ih (j + 1) _ best c (by omega) hlt hst2 ?_ kp2 hS2 fin⟩
      simp only [argBest, he, Bool.false_eq_true, if_false]; exact hb
theorem min_begin (W : Walks prog w A.in1 I fp wr n P St) (bt : Nat → Nat → Bool) (S : Addr) (far : S ∉ fp) (kw : List (Str × Value)) {s : Shared} {c : Nat}
    (less : ∀ (t : Shared) (i j : Nat) (x y : Value) (Q E : Value → Shared → Prop), KeepsB wr S s.heap t.heap → P i x → P j y → Q (.bool (bt i j)) t → wpAny (model prog w) A.in1 (richCompare .Lt x y) Q E t)
    (hn : 0 < n) (hst : St 0 s.heap) (hS : s.heap.get? S = some { cls := .type "list", dict := none, data := .seq #[] c, slots := #[] })
    (fin : ∀ v h' tk, P (argBest bt (n - 1)) v → KeepsB wr S s.heap h' → R (.ok (.ret v)) { s with heap := h', toks := tk }) : codeAny (model prog w) A (.builtin "min.loop" ⟨[.ref I, .none, .ref S], kw⟩) R s := by
  have farw : S ∉ wr := fun h => far (W.sub _ h)
  have nm : (toString "min" ++ toString ".loop" : String) = "min.loop" := by decide
  have kp : KeepsB wr S s.heap s.heap := fun _ _ _ _ e => e
  refine codeAny_builtin PySem.F.entry_min_loop ?_; rw [Around.under_plainId PySem.F.plain_min_loop _]
  show wpAny _ A.in1 (seqItems? (Value.ref S) >>= _) _ _ s
  refine wpAny_bind (wpAny_seqItems hS rfl ?_); show wpAny _ A.in1 (tryCatch (pyNext (Value.ref I)) _ >>= _) _ _ s
  refine wpAny_bind (wpAny_tryCatch (W.item 0 s _ _ hn hst fun x h2 tk2 hx hst2 k2 => ?_)); have hS2 := k2 S _ farw hS
  show wpAny _ A.in1 (updateSeq S (fun _ => #[x, x]) >>= _) _ _ { s with heap := h2, toks := tk2 }
  refine wpAny_bind ?_; refine wpAny_updateSeq hS2 rfl ?_; rw [nm]
  refine wpAny_pure ⟨plainId_quiet PySem.F.plain_min_loop _, min_turns W bt S far kw s.heap less _ 0 _ x _ rfl hn (W.frame _ _ _ hst2 fun b hbf o e => ?_) hx (kp.more k2).put (Heap.get?_update_self _ hS2 rfl) fin⟩
  exact (Heap.get?_update_other _ _ (fun z : S = b => far (z ▸ hbf))).trans e
end
section
variable {prog : Program} {w : World} {A : Around} {E : Value → Shared → Prop} {s : Shared}
/-- min(l), l a list, where comparing needs the heap -/
theorem min_listH {l : Addr} {items : Array Value} {Q : Value → Shared → Prop} (bt : Nat → Nat → Bool) (hh : A.handled = none) (hl : s.heap.IsList l items) (hn : 0 < items.size)
    (less : ∀ (t : Shared) (i j : Nat) (x y : Value) (Q E : Value → Shared → Prop), (∀ b o, s.heap.get? b = some o → t.heap.get? b = some o) → items[i]? = some x → items[j]? = some y → Q (.bool (bt i j)) t → wpAny (model prog w) A.in1 (richCompare .Lt x y) Q E t)
    (fin : ∀ v h' tk, items[argBest bt (items.size - 1)]? = some v → (∀ b o, s.heap.get? b = some o → h'.get? b = some o) → Q v { s with heap := h', toks := tk }) : wpAny (model prog w) A (call (.builtin "min") [.ref l]) Q E s := by
  have nm : (toString "min" ++ toString ".loop" : String) = "min.loop" := by decide
  have nl : l ≠ s.heap.objs.size := Nat.ne_of_lt (by obtain ⟨o, e, _⟩ := id hl; exact Heap.lt_size e)
  refine call_function_tree PySem.F.kind_min PySem.F.plain_min PySem.F.entry_min (PySem.F.args_min1 _) ?_
  show wpAny _ A.in1 (Builtin.Builtins.bindParams "min" ["key", "default"] 0 ⟨[], []⟩ >>= _) _ _ s
  refine wpAny_bind (wpAny_of_eq (show Builtin.Builtins.bindParams "min" ["key", "default"] 0 ⟨[], []⟩ = pure [none, none] from rfl) (wpAny_bind (wpAny_pure (wpAny_bind (wpAny_pyIter_list hl ?_)))))
  refine wpAny_bind (wpAny_newObj_type ?_); rw [nm]
  have hit : (s.heap.push { cls := .type "list_iterator", data := .fields #[.ref l, .int 0 0] }).IsListIter s.heap.objs.size l 0 := ⟨_, Heap.get?_push_size _ rfl, rfl, rfl⟩
  have sz : (s.heap.push { cls := .type "list_iterator", data := .fields #[.ref l, .int 0 0] }).objs.size = s.heap.objs.size + 1 := by simp [Heap.push]
  have old : ∀ {h : Heap}, KeepsB [s.heap.objs.size] (s.heap.push { cls := .type "list_iterator", data := .fields #[.ref l, .int 0 0] }).objs.size ((s.heap.push { cls := .type "list_iterator", data := .fields #[.ref l, .int 0 0] }).push { cls := .type "list", data := .seq #[] }) h → ∀ b o, s.heap.get? b = some o → h.get? b = some o := fun k b o e =>
    k b o (by rw [List.mem_singleton]; exact Nat.ne_of_lt (Heap.lt_size e)) (by rw [sz]; exact Nat.ne_of_lt (Nat.lt_succ_of_lt (Heap.lt_size e))) (Heap.get?_push_of_some _ (Heap.get?_push_of_some _ e))
  refine wpAny_pure ⟨plainId_quiet PySem.F.plain_min_loop _, min_begin (Walks.list (A := A.in1) hh s.heap.objs.size l nl items) bt (s.heap.push { cls := .type "list_iterator", data := .fields #[.ref l, .int 0 0] }).objs.size ?_ [] (fun t i j x y Q E k => less t i j x y Q E (old k)) hn
    ⟨hit.at fun o e => Heap.get?_push_of_some _ e, (hl.push _).push _⟩ (Heap.get?_push_size _ rfl) fun v h' tk hv k => fin v h' tk hv (old k)⟩
  rw [sz, List.mem_cons, List.mem_singleton, not_or]
  exact ⟨Nat.succ_ne_self _, fun z => by
    obtain ⟨o, e, _⟩ := id hl
    exact absurd (Heap.lt_size e) (by rw [← z]; exact Nat.not_lt.mpr (Nat.le_succ _))⟩
end
theorem argB_le (bt : Nat → Nat → Bool) : ∀ m, argBest bt m ≤ m
  | 0 => Nat.le_refl _
  | m + 1 => by
    show (if bt (m + 1) (argBest bt m) = true then m + 1 else argBest bt m) ≤ m + 1
    have := argB_le bt m
    split <;> omega
theorem argB_min (key : Nat → Int × Int) : ∀ m j, j ≤ m → leP (key (argBest (fun i j => SrtO.lexB (key i) (key j)) m)) (key j) = true
  | 0, j, h => by
    obtain rfl : j = 0 := by omega
    exact leP_iff.mpr (.inr ⟨rfl, Int.le_refl _⟩)
  | m + 1, j, h => by
    have ih := argB_min key m
    show leP (key (if SrtO.lexB (key (m + 1)) (key (argBest _ m)) = true then m + 1 else argBest _ m)) (key j) = true
    generalize argBest (fun i j => SrtO.lexB (key i) (key j)) m = b at ih ⊢
    have hc : SrtO.lexB (key (m + 1)) (key b) = !leP (key b) (key (m + 1)) := by unfold leP; rw [Bool.not_not]
    by_cases hj : j = m + 1
    · subst hj
      split
      · exact leP_iff.mpr (.inr ⟨rfl, Int.le_refl _⟩)
      · rename_i h2
        rw [hc] at h2
        simpa using h2
    · have h1 := leP_iff.mp (ih j (by omega))
      split
      · rename_i h2
        rw [hc] at h2
        have h3 : ¬ (leP (key b) (key (m + 1)) = true) := by simpa using h2
        rw [leP_iff] at h3
        rw [leP_iff]
        omega
      · exact leP_iff.mpr h1
theorem lexLt2 {a b c d : Int} : HT.lexLt [a, b] [c, d] = SrtO.lexB (a, b) (c, d) := by
  have h : SrtO.lexB (a, b) (c, d) = !leP (c, d) (a, b) := by unfold leP; rw [Bool.not_not]
  rw [h, HT.lexLt_cons, HT.lexLt_cons, HT.lexLt_nil_nil, Bool.eq_iff_iff, Bool.not_eq_true', ← Bool.not_eq_true, leP_iff]
  dsimp only
  by_cases h1 : a = c
  · rw [if_pos h1]
    by_cases h2 : b = d
    · rw [if_pos h2]
      simp only [Bool.false_eq_true, false_iff]
      omega
    · rw [if_neg h2, decide_eq_true_iff]
      omega
  · rw [if_neg h1, decide_eq_true_iff]
    omega
def rMinPO (K : PySem.W.Frag) : List V → Hp → VK → Prop := fun vs H Q => ∃ (a : Addr) (xs : List V) (k : V → Int × Int), vs = [V.ref a] ∧ SqL K H a xs ∧ xs ≠ [] ∧ (∀ x ∈ xs, ∃ t, x = V.ref t ∧ H t = some (.tup [.int (k x).1, .int (k x).2])) ∧ ∀ x ∈ xs, (∀ y ∈ xs, leP (k x) (k y) = true) → Q x H
theorem cr_minPO {X : Cx} (hu : X.A.units + 64 < cLine) (hc : X.calm = true) : CallR X (.builtin "min") (rMinPO X.K) := by
  intro pins s σ H vs us Q I r h
  obtain ⟨a, xs, k, rfl, hs, hne, hk, q⟩ := h
  obtain ⟨its, rv, hl, hz⟩ := I.list hs
  rw [Vals.ref1 r]
  have hlen := rv.length
  have hpos : 0 < its.length := by
    rw [← hlen]
    exact List.length_pos_iff.mpr hne
  have at_ : ∀ (i : Nat) v, its[i]? = some v → ∃ x, xs[i]? = some x ∧ RelV x v ∧ ∃ t, x = V.ref t ∧ H t = some (.tup [.int (k x).1, .int (k x).2]) := fun i v e => by
    have hi := (List.getElem?_eq_some_iff.mp e).1
    obtain ⟨x, ex⟩ : ∃ x, xs[i]? = some x := ⟨_, List.getElem?_eq_getElem (by omega)⟩
    obtain ⟨w, ew, rw'⟩ := rv.get ex
    rw [e] at ew
    cases ew
    exact ⟨x, ex, rw', hk x (List.mem_of_getElem? ex)⟩
  refine min_listH (fun i j => SrtO.lexB (k (xs.getD i .non)) (k (xs.getD j .non))) (I.ok.hd hc) hl.isList (by simpa using hpos) (fun t i j x y Q' E' kp hx hy h => ?_) fun v h' tk hv kp => ?_
  · obtain ⟨x1, e1, r1, t1, rfl, ht1⟩ := at_ i x (by simpa using hx)
    obtain ⟨x2, e2, r2, t2, rfl, ht2⟩ := at_ j y (by simpa using hy)
    cases r1
    cases r2
    obtain ⟨its1, v1, p1, _⟩ := I.tuple (SqT.of ht1)
    obtain ⟨its2, v2, p2, _⟩ := I.tuple (SqT.of ht2)
    have i1 : IntsAre its1.toArray.toList [(k (.ref t1)).1, (k (.ref t1)).2] := intsAre_of (ns := [(k (.ref t1)).1, (k (.ref t1)).2]) v1
    have i2 : IntsAre its2.toArray.toList [(k (.ref t2)).1, (k (.ref t2)).2] := intsAre_of (ns := [(k (.ref t2)).1, (k (.ref t2)).2]) v2
    have up : ∀ {l : Addr} {its : Array Value}, IsTup s.heap l its → IsTup t.heap l its := fun ⟨o, ho, r⟩ => ⟨o, kp _ _ ho, r⟩
    have hu1 : X.A.in1.units < cLine := Nat.lt_of_le_of_lt (show X.A.in1.units ≤ X.A.units + 64 from by first | exact Nat.le_add_right _ _ | exact Nat.add_le_add_left (by decide) _) hu
    refine HT.lt_tupInts (up p1) (up p2) i1 i2 hu1 ?_
    rw [lexLt2]
    rw [List.getD_eq_getElem?_getD, List.getD_eq_getElem?_getD, e1, e2] at h
    exact h
  · obtain ⟨B, hB⟩ : ∃ B, argBest (fun i j => SrtO.lexB (k (xs.getD i .non)) (k (xs.getD j .non))) (its.toArray.size - 1) = B := ⟨_, rfl⟩
    rw [hB] at hv
    obtain ⟨x, e1, r1, _⟩ := at_ B v (by simpa using hv)
    refine ⟨x, H, I.kept kp, r1, q x (List.mem_of_getElem? e1) fun y hy => ?_⟩
    obtain ⟨j, ej⟩ := List.mem_iff_getElem?.mp hy
    have hj := (List.getElem?_eq_some_iff.mp ej).1
    have hm : leP (k (xs.getD B .non)) (k (xs.getD j .non)) = true := by
      rw [← hB]
      exact argB_min (fun i => k (xs.getD i .non)) (its.toArray.size - 1) j (by rw [List.size_toArray]; omega)
    rw [List.getD_eq_getElem?_getD, List.getD_eq_getElem?_getD, e1, ej] at hm
    exact hm
theorem _root_.L2.Room.units65 {k : Nat} {A : Around} (r : Room k A) : A.units + 65 < cLine := by
  have h1 := r.un
  omega
/-! ### built-in calls -/
section
variable {X : Cx}
def uMax (K : PySem.W.Frag) : List V → Hp → VK → Prop := fun xs H Q => (∃ i j, xs = [.int i, .int j] ∧ Q (.int (if j > i then j else i)) H) ∨ rMax K xs H Q
theorem cr_umax (hc : X.calm = true := by rfl) : CallR X (.builtin "max") (uMax X.K) := (call_max2 hc).or (cr_max hc)
def uMin (K : PySem.W.Frag) : List V → Hp → VK → Prop := fun xs H Q => (∃ i j, xs = [.int i, .int j] ∧ Q (.int (if j < i then j else i)) H) ∨ rMin K xs H Q
theorem cr_umin (hc : X.calm = true := by rfl) : CallR X (.builtin "min") (uMin X.K) := (call_min2 hc).or (cr_min hc)
theorem cr_usum (hc : X.calm = true := by rfl) : CallR X (.builtin "sum") (rSum X.K) := cr_sum hc
theorem cr_uall (hc : X.calm = true := by rfl) : CallR X (.builtin "all") (rAll X.K) := cr_all hc
theorem cr_uany (hc : X.calm = true := by rfl) : CallR X (.builtin "any") (rAny X.K) := cr_any hc
def uList (K : PySem.W.Frag) : List V → Hp → VK → Prop := fun xs H Q => (∃ p ys, xs = [.ref p] ∧ (SqL K H p ys ∨ SqT K H p ys) ∧ ∀ l, H l = none → Q (.ref l) (upd H l (.lst ys))) ∨ rListD xs H Q
theorem ct_list (hc : X.calm = true := by rfl) : CallR X (.type "list") (uList X.K) := call_list_of.or (call_list_dK hc)
def uTup (K : PySem.W.Frag) : List V → Hp → VK → Prop := fun xs H Q => ∃ x, xs = [x] ∧ kTup K x H Q
theorem ct_tuple : CallR X (.type "tuple") (uTup X.K) := by
  intro pins s σ H xs us Q I r h
  obtain ⟨x, rfl, h⟩ := h
  obtain ⟨u, rfl, ru⟩ := vals1 r
  exact rl_tuple pins s σ H x u Q I ru h
def uInt : List V → Hp → VK → Prop := fun xs H Q => (∃ i, xs = [.int i] ∧ Q (.int i) H) ∨ ∃ k, xs = [.bl k] ∧ Q (.int (if k then 1 else 0)) H
theorem ct_int : CallR X (.type "int") uInt := call_int1
theorem bt_max : bootBuiltins "max" = some (.builtin "max") := by decide +kernel
theorem bt_min : bootBuiltins "min" = some (.builtin "min") := by decide +kernel
theorem bt_sum : bootBuiltins "sum" = some (.builtin "sum") := by decide +kernel
theorem bt_all : bootBuiltins "all" = some (.builtin "all") := by decide +kernel
theorem bt_any : bootBuiltins "any" = some (.builtin "any") := by decide +kernel
theorem bt_sorted : bootBuiltins "sorted" = some (.builtin "sorted") := by decide +kernel
def uLen (K : PySem.W.Frag) : List V → Hp → VK → Prop := fun xs H Q => (∃ p ys, xs = [.ref p] ∧ (SqL K H p ys ∨ SqT K H p ys) ∧ Q (.int ys.length) H) ∨ ((∃ z, xs = [.str z] ∧ z.length ≤ sizeLine ∧ Q (.int z.length) H) ∨ (∃ a kvs, xs = [V.ref a] ∧ H a = some (.dK kvs) ∧ Q (.int kvs.length) H))
theorem cr_ulen : CallR X (.builtin "len") (uLen X.K) := call_len_seq.or (call_len_str.or call_lenD)
def uIsi (K : PySem.W.Frag) : List V → Hp → VK → Prop := rIsi K
theorem cr_uisinstance : CallR X (.builtin "isinstance") (uIsi X.K) := call_isi
def uStr : List V → Hp → VK → Prop := fun xs H Q => ∃ i, xs = [.int i] ∧ i.natAbs.log2 < 1920 ∧ Q (.str (toString i)) H
theorem ct_str : CallR X (.type "str") uStr := call_str_int
theorem bt_isinstance : bootBuiltins "isinstance" = some (.builtin "isinstance") := by decide +kernel
theorem bt_int : bootBuiltins "int" = some (.type "int") := by decide +kernel
theorem bt_bool : bootBuiltins "bool" = some (.type "bool") := by decide +kernel
theorem bt_str : bootBuiltins "str" = some (.type "str") := by decide +kernel
theorem bt_ValueError : bootBuiltins "ValueError" = some (.type "ValueError") := by decide +kernel
theorem bt_list : bootBuiltins "list" = some (.type "list") := by decide +kernel
theorem bt_tuple : bootBuiltins "tuple" = some (.type "tuple") := by decide +kernel
theorem bt_dict : bootBuiltins "dict" = some (.type "dict") := by decide +kernel
theorem bt_len : bootBuiltins "len" = some (.builtin "len") := by decide +kernel
end
section
variable {σ : L2.St} {H : Hp} {K : PySem.W.Frag} {Q : VK} {p : Addr} {xs : List V} {n : Int} {v : V}
theorem x_lenL (h : SqL K H p xs) (q : Q (.int xs.length) H) : uLen K [.ref p] H Q := .inl ⟨p, xs, rfl, .inl h, q⟩
theorem x_lenM {α : Type} {l : List α} {f : α → V} (h : SqL K H p (l.map f)) (q : Q (.int l.length) H) : uLen K [.ref p] H Q := .inl ⟨p, _, rfl, .inl h, by rw [List.length_map]; exact q⟩
theorem x_lenT (h : SqT K H p xs) (q : Q (.int xs.length) H) : uLen K [.ref p] H Q := .inl ⟨p, xs, rfl, .inr h, q⟩
/-- the built-in class of a value -/
def tyN : V → Option String
  | .non => some "NoneType" | .bl _ => some "bool" | .int _ => some "int" | .str _ => some "str" | .flt _ => some "float" | _ => none
theorem x_isiV {c : String} {t : String} {b : Bool} (ht : tyN v = some t) (hk : kitB t c = some b) (q : Q (.bl b) H) : uIsi K [v, .ty c] H Q := by
  have ty : TyX K H v (.type t) := by
    cases v <;> simp only [tyN, Option.some.injEq, reduceCtorEq] at ht <;> subst ht
    · exact .base .non
    · exact .base (.bl _)
    · exact .base (.int _)
    · exact .base (.str _)
    · exact .base (.flt _)
  exact ⟨v, .ty c, .type t, .type c, b, rfl, .ty c, ty, kit_ty hk, q⟩
theorem x_isiR {c t : String} {b : Bool} (ty : TyX K H (.ref p) (.type t)) (hk : kitB t c = some b) (q : Q (.bl b) H) : uIsi K [.ref p, .ty c] H Q :=
  ⟨.ref p, .ty c, .type t, .type c, b, rfl, .ty c, ty, kit_ty hk, q⟩
theorem x_isiNon_int (q : Q (.bl false) H) : uIsi K [V.non, .ty "int"] H Q := x_isiV rfl (by decide +kernel) q
theorem x_isiNon_bool (q : Q (.bl false) H) : uIsi K [V.non, .ty "bool"] H Q := x_isiV rfl (by decide +kernel) q
theorem x_isiNon_str (q : Q (.bl false) H) : uIsi K [V.non, .ty "str"] H Q := x_isiV rfl (by decide +kernel) q
theorem x_isiNon_list (q : Q (.bl false) H) : uIsi K [V.non, .ty "list"] H Q := x_isiV rfl (by decide +kernel) q
theorem x_isiNon_tuple (q : Q (.bl false) H) : uIsi K [V.non, .ty "tuple"] H Q := x_isiV rfl (by decide +kernel) q
theorem x_isiNon_dict (q : Q (.bl false) H) : uIsi K [V.non, .ty "dict"] H Q := x_isiV rfl (by decide +kernel) q
theorem x_isiBl_int {b : Bool} (q : Q (.bl true) H) : uIsi K [(V.bl b), .ty "int"] H Q := x_isiV rfl (by decide +kernel) q
theorem x_isiBl_bool {b : Bool} (q : Q (.bl true) H) : uIsi K [(V.bl b), .ty "bool"] H Q := x_isiV rfl (by decide +kernel) q
theorem x_isiBl_str {b : Bool} (q : Q (.bl false) H) : uIsi K [(V.bl b), .ty "str"] H Q := x_isiV rfl (by decide +kernel) q
theorem x_isiBl_list {b : Bool} (q : Q (.bl false) H) : uIsi K [(V.bl b), .ty "list"] H Q := x_isiV rfl (by decide +kernel) q
theorem x_isiBl_tuple {b : Bool} (q : Q (.bl false) H) : uIsi K [(V.bl b), .ty "tuple"] H Q := x_isiV rfl (by decide +kernel) q
theorem x_isiBl_dict {b : Bool} (q : Q (.bl false) H) : uIsi K [(V.bl b), .ty "dict"] H Q := x_isiV rfl (by decide +kernel) q
theorem x_isiInt_int (q : Q (.bl true) H) : uIsi K [(V.int n), .ty "int"] H Q := x_isiV rfl (by decide +kernel) q
theorem x_isiInt_bool (q : Q (.bl false) H) : uIsi K [(V.int n), .ty "bool"] H Q := x_isiV rfl (by decide +kernel) q
theorem x_isiInt_str (q : Q (.bl false) H) : uIsi K [(V.int n), .ty "str"] H Q := x_isiV rfl (by decide +kernel) q
theorem x_isiInt_list (q : Q (.bl false) H) : uIsi K [(V.int n), .ty "list"] H Q := x_isiV rfl (by decide +kernel) q
theorem x_isiInt_tuple (q : Q (.bl false) H) : uIsi K [(V.int n), .ty "tuple"] H Q := x_isiV rfl (by decide +kernel) q
theorem x_isiInt_dict (q : Q (.bl false) H) : uIsi K [(V.int n), .ty "dict"] H Q := x_isiV rfl (by decide +kernel) q
theorem x_isiStr_int {z : Str} (q : Q (.bl false) H) : uIsi K [(V.str z), .ty "int"] H Q := x_isiV rfl (by decide +kernel) q
theorem x_isiStr_bool {z : Str} (q : Q (.bl false) H) : uIsi K [(V.str z), .ty "bool"] H Q := x_isiV rfl (by decide +kernel) q
theorem x_isiStr_str {z : Str} (q : Q (.bl true) H) : uIsi K [(V.str z), .ty "str"] H Q := x_isiV rfl (by decide +kernel) q
theorem x_isiStr_list {z : Str} (q : Q (.bl false) H) : uIsi K [(V.str z), .ty "list"] H Q := x_isiV rfl (by decide +kernel) q
theorem x_isiStr_tuple {z : Str} (q : Q (.bl false) H) : uIsi K [(V.str z), .ty "tuple"] H Q := x_isiV rfl (by decide +kernel) q
theorem x_isiStr_dict {z : Str} (q : Q (.bl false) H) : uIsi K [(V.str z), .ty "dict"] H Q := x_isiV rfl (by decide +kernel) q
theorem x_isiLst_int (h : H p = some (.lst xs)) (q : Q (.bl false) H) : uIsi K [.ref p, .ty "int"] H Q := x_isiR (.base (.lst h)) (by decide +kernel) q
theorem x_isiLst_bool (h : H p = some (.lst xs)) (q : Q (.bl false) H) : uIsi K [.ref p, .ty "bool"] H Q := x_isiR (.base (.lst h)) (by decide +kernel) q
theorem x_isiLst_str (h : H p = some (.lst xs)) (q : Q (.bl false) H) : uIsi K [.ref p, .ty "str"] H Q := x_isiR (.base (.lst h)) (by decide +kernel) q
theorem x_isiLst_list (h : H p = some (.lst xs)) (q : Q (.bl true) H) : uIsi K [.ref p, .ty "list"] H Q := x_isiR (.base (.lst h)) (by decide +kernel) q
theorem x_isiLst_tuple (h : H p = some (.lst xs)) (q : Q (.bl false) H) : uIsi K [.ref p, .ty "tuple"] H Q := x_isiR (.base (.lst h)) (by decide +kernel) q
theorem x_isiLst_dict (h : H p = some (.lst xs)) (q : Q (.bl false) H) : uIsi K [.ref p, .ty "dict"] H Q := x_isiR (.base (.lst h)) (by decide +kernel) q
theorem x_isiTup_int (h : H p = some (.tup xs)) (q : Q (.bl false) H) : uIsi K [.ref p, .ty "int"] H Q := x_isiR (.base (.tup h)) (by decide +kernel) q
theorem x_isiTup_bool (h : H p = some (.tup xs)) (q : Q (.bl false) H) : uIsi K [.ref p, .ty "bool"] H Q := x_isiR (.base (.tup h)) (by decide +kernel) q
theorem x_isiTup_str (h : H p = some (.tup xs)) (q : Q (.bl false) H) : uIsi K [.ref p, .ty "str"] H Q := x_isiR (.base (.tup h)) (by decide +kernel) q
theorem x_isiTup_list (h : H p = some (.tup xs)) (q : Q (.bl false) H) : uIsi K [.ref p, .ty "list"] H Q := x_isiR (.base (.tup h)) (by decide +kernel) q
theorem x_isiTup_tuple (h : H p = some (.tup xs)) (q : Q (.bl true) H) : uIsi K [.ref p, .ty "tuple"] H Q := x_isiR (.base (.tup h)) (by decide +kernel) q
theorem x_isiTup_dict (h : H p = some (.tup xs)) (q : Q (.bl false) H) : uIsi K [.ref p, .ty "dict"] H Q := x_isiR (.base (.tup h)) (by decide +kernel) q
theorem x_isiDk_int {kvs : List (Key × V)} (h : H p = some (.dK kvs)) (q : Q (.bl false) H) : uIsi K [.ref p, .ty "int"] H Q := x_isiR (.base (.dK h)) (by decide +kernel) q
theorem x_isiDk_bool {kvs : List (Key × V)} (h : H p = some (.dK kvs)) (q : Q (.bl false) H) : uIsi K [.ref p, .ty "bool"] H Q := x_isiR (.base (.dK h)) (by decide +kernel) q
theorem x_isiDk_str {kvs : List (Key × V)} (h : H p = some (.dK kvs)) (q : Q (.bl false) H) : uIsi K [.ref p, .ty "str"] H Q := x_isiR (.base (.dK h)) (by decide +kernel) q
theorem x_isiDk_list {kvs : List (Key × V)} (h : H p = some (.dK kvs)) (q : Q (.bl false) H) : uIsi K [.ref p, .ty "list"] H Q := x_isiR (.base (.dK h)) (by decide +kernel) q
theorem x_isiDk_tuple {kvs : List (Key × V)} (h : H p = some (.dK kvs)) (q : Q (.bl false) H) : uIsi K [.ref p, .ty "tuple"] H Q := x_isiR (.base (.dK h)) (by decide +kernel) q
theorem x_isiDk_dict {kvs : List (Key × V)} (h : H p = some (.dK kvs)) (q : Q (.bl true) H) : uIsi K [.ref p, .ty "dict"] H Q := x_isiR (.base (.dK h)) (by decide +kernel) q
theorem x_intB {b : Bool} (q : Q (.int (if b then 1 else 0)) H) : uInt [.bl b] H Q := .inr ⟨b, rfl, q⟩
theorem x_intI {m : Int} (q : Q (.int m) H) : uInt [.int m] H Q := .inl ⟨m, rfl, q⟩
theorem x_max2 {m n : Int} (q : Q (.int (if n > m then n else m)) H) : uMax K [.int m, .int n] H Q := .inl ⟨m, n, rfl, q⟩
theorem x_min2 {m n : Int} (q : Q (.int (if n < m then n else m)) H) : uMin K [.int m, .int n] H Q := .inl ⟨m, n, rfl, q⟩
theorem x_list (h : SqL K H p xs) (q : New H Q (.lst xs)) : uList K [.ref p] H Q := .inl ⟨p, xs, rfl, .inl h, q.mk⟩
theorem x_tupL (h : SqL K H p xs) (q : New H Q (.tup xs)) : uTup K [.ref p] H Q := ⟨_, rfl, .inl ⟨p, xs, rfl, h, q.mk⟩⟩
theorem x_listD {kvs : List (L2.Key × V)} (h : H p = some (.dK kvs)) (q : New H Q (.lst (kvs.map fun kv => kV kv.1))) : uList K [.ref p] H Q := .inr ⟨p, kvs, rfl, h, q.mk⟩
theorem x_lenD {kvs : List (L2.Key × V)} (h : H p = some (.dK kvs)) (q : Q (.int kvs.length) H) : uLen K [.ref p] H Q := .inr (.inr ⟨p, kvs, rfl, h, q⟩)
theorem x_str (q : Q (.str (toString n)) H) (h : n.natAbs.log2 < 1920) : uStr [.int n] H Q := ⟨n, rfl, h, q⟩
end
/-! ### the same rules where K is told (inside a comprehension) -/
section
variable {X : Cx} {K : PySem.W.Frag} {a b e : Expr} {rest : List Expr} {ta tb : TE} {pos : Pos} {f : Str}
theorem K_ix (hK : X.K = K := by rfl) : IxR X (rIx K) := hK ▸ ix_seq
theorem K_sl (hK : X.K = K := by rfl) : SlR X (rSlL K) := hK ▸ sl_u
theorem K_add (hK : X.K = K := by rfl) : OpR X (binaryOp .Add) (uAdd K) := hK ▸ op_uAdd
theorem K_eq (hu : X.A.units + 64 < cLine) (hK : X.K = K := by rfl) : OpR X (compareOp .Eq) (uEq K) := hK ▸ op_uEq hu
theorem K_ne (hu : X.A.units + 64 < cLine) (hK : X.K = K := by rfl) : OpR X (compareOp .NotEq) (uNe K) := hK ▸ op_uNe hu
theorem K_in (hK : X.K = K := by rfl) : OpR X (compareOp .In) (uIn K) := hK ▸ op_uIn
theorem K_notIn (hK : X.K = K := by rfl) : OpR X (compareOp .NotIn) (uNotIn K) := hK ▸ op_uNotIn
theorem K_fld (he : PE X e ta) (hb : attributeBase e f X.env (eval e X.env) = eval e X.env) (hK : X.K = K := by rfl) : PE X (.Attribute e f pos) (tFld K ta f) := hK ▸ pe_fld he hb
theorem K_orT (ha : PE X a ta) (hb : PE X (.BoolOp .Or (b :: rest) pos) tb) (hK : X.K = K := by rfl) : PE X (.BoolOp .Or (a :: b :: rest) pos) (tOrT K ta tb) := hK ▸ pe_orT ha hb
theorem K_andT (ha : PE X a ta) (hb : PE X (.BoolOp .And (b :: rest) pos) tb) (hK : X.K = K := by rfl) : PE X (.BoolOp .And (a :: b :: rest) pos) (tAndT K ta tb) := hK ▸ pe_andT ha hb
theorem K_notT (ha : PE X a ta) (hK : X.K = K := by rfl) : PE X (.UnaryOp .Not a pos) (tNotT K ta) := hK ▸ pe_notT ha
theorem K_ulen (hK : X.K = K := by rfl) : CallR X (.builtin "len") (uLen K) := hK ▸ cr_ulen
theorem K_umax (hc : X.calm = true := by rfl) (hK : X.K = K := by rfl) : CallR X (.builtin "max") (uMax K) := hK ▸ cr_umax hc
theorem K_umin (hc : X.calm = true := by rfl) (hK : X.K = K := by rfl) : CallR X (.builtin "min") (uMin K) := hK ▸ cr_umin hc
theorem K_usum (hc : X.calm = true := by rfl) (hK : X.K = K := by rfl) : CallR X (.builtin "sum") (rSum K) := hK ▸ cr_usum hc
theorem K_uisinstance (hK : X.K = K := by rfl) : CallR X (.builtin "isinstance") (uIsi K) := hK ▸ cr_uisinstance
theorem K_gtup {K : PySem.W.Frag} {es : List Expr} {k : Nat} {ts : TGs} {n : Nat} {pos : Pos} (hc : X.calm = true) (h : PGs X es ts) (hn : (assignEach es X.env).length = n := by rfl) (hst : (assignEach es X.env).findIdx? (·.1) = none := by rfl) (hK : X.K = K := by rfl) : PG X (.Tuple es k pos) (gTup K n ts) := hK ▸ pg_tup hc h hn hst
theorem K_usorted (hc : X.calm = true := by rfl) (hK : X.K = K := by rfl) : CallR X (.builtin "sorted") (uSorted K) := hK ▸ cr_usorted hc
theorem K_list (hK : X.K = K := by rfl) (hc : X.calm = true := by rfl) : CallR X (.type "list") (uList K) := hK ▸ ct_list hc
theorem K_methD {P : Program} {w : World} {mg : Str → Option Value} {base : Heap} {k : Nat} {E : L2.St → XK} {m : Str} {pos apos : Pos} {e o : Expr} {es : List Expr} {t : TA} {pl : Sem Bool} (he : PE X o ta) (hr : Room k X.A) (hx : ∀ σ, PassesAt (L2.CX P w) X σ (E σ)) (ha : PA X (e :: es) t)
    (hst : starEach (e :: es) X.env = (false, eval e X.env) :: starEach es X.env := by rfl) (hpl : (backTo pos (starEach es X.env)).any (·.1) = false := by rfl)
    (ht : eval (.Call (.Attribute o m apos) (e :: es) [] pos) X.env = (do
      let ov ← eval o X.env
      standAt apos.atName
      let (f, first) ← holding [ov] (getMethod ov m pl)
      callWith pos f first (backTo pos (starEach (e :: es) X.env)) (backToKw pos (keywordEach [] X.env))) := by rfl)
    (h1 : X.prog = P := by rfl) (h2 : X.w = w := by rfl) (h3 : X.K = K := by rfl) (h4 : X.mg = mg := by rfl) (h5 : X.base = base := by rfl) :
    PE X (.Call (.Attribute o m apos) (e :: es) [] pos) (tMethD P w K mg base (L2.CX P w) k m E ta t) := by
  subst h1 h2 h3 h4 h5
  exact pe_methD he hr hx ha hst hpl ht
theorem K_methD0 {P : Program} {w : World} {mg : Str → Option Value} {base : Heap} {k : Nat} {E : L2.St → XK} {m : Str} {pos apos : Pos} {o : Expr} {pl : Sem Bool} (he : PE X o ta) (hr : Room k X.A) (hx : ∀ σ, PassesAt (L2.CX P w) X σ (E σ))
    (ht : eval (.Call (.Attribute o m apos) [] [] pos) X.env = (do
      let ov ← eval o X.env
      standAt apos.atName
      let (f, first) ← holding [ov] (getMethod ov m pl)
      callWith pos f first (backTo pos (starEach [] X.env)) (backToKw pos (keywordEach [] X.env))) := by rfl)
    (h1 : X.prog = P := by rfl) (h2 : X.w = w := by rfl) (h3 : X.K = K := by rfl) (h4 : X.mg = mg := by rfl) (h5 : X.base = base := by rfl) :
    PE X (.Call (.Attribute o m apos) [] [] pos) (tMethD P w K mg base (L2.CX P w) k m E ta tNil) := by
  subst h1 h2 h3 h4 h5
  exact pe_methD0 he hr hx ht
theorem K_truth (ha : PE X a ta) (he : ∀ whole, isTrue a X.env whole = (do let v ← whole; standAt a.pos; holding [v] (truthy v))) (hK : X.K = K := by rfl) : PT X a (fun σ H Q => ta σ H fun x H' => ∃ k, TruV K x H' k ∧ Q k H') := hK ▸ pt_truth ha he
end
/-! sorted(d.items()), d a dict from whole numbers to whole numbers -/
section
open L2.DX
variable {X : Cx}
def rItemsI : V → List V → Hp → VK → Prop := fun x xs H Q => ∃ (a : Addr) (kvs : List (L2.Key × V)), x = .ref a ∧ xs = [] ∧ H a = some (.dK kvs) ∧ ∀ p, H p = none → Q (.ref p) (upd H p (itemsO p a))
theorem mt_itemsI : MtR X "dict.items" rItemsI := by
  intro pins s σ H x xs v us Q I rx rxs h
  obtain ⟨a, kvs, rfl, rfl, ha, q⟩ := h
  cases rx
  cases rxs
  obtain ⟨z, hd, xs', rel, o, es, ep, ho, hx, hdat, _⟩ := dk_of I.hok ha
  refine DT.callItems (es := es) (ep := ep) hd ⟨o, ho, hx, hdat⟩ ?_
  have hf : H s.heap.objs.size = none := I.hok.fresh (Nat.le_refl _)
  exact ⟨.ref s.heap.objs.size, upd H s.heap.objs.size (itemsO s.heap.objs.size a), I.laid (t' := s.toks) (fun b u e => Heap.get?_push_of_some _ e) (Nat.le_refl _) (itemsO_ok (Heap.get?_push_size _ rfl)), rfl, q _ hf⟩
theorem pairs_get {K : Type} [DecidableEq K] {prog : Program} {w : World} {knd : KeyKind prog w K} : ∀ {es : List DictEntry} {kvs : List (K × Value)}, Pairs knd es kvs → ∀ {j : Nat} {e : DictEntry}, es[j]? = some e → ∃ kv, kvs[j]? = some kv ∧ knd.is kv.1 e.key = true ∧ e.val = kv.2
  | _, _, .nil, j, e, h => by simp at h
  | _, _, .cons h1 h2 h3, 0, e, h => by
    cases h
    exact ⟨_, rfl, h1, h2⟩
  | _, _, .cons h1 h2 h3, j + 1, e, h => pairs_get h3 h
def kvP (l : List (Int × Int)) : List (L2.Key × V) := l.map fun e => (Sum.inl e.1, V.int e.2)
def rSortItI (B : Int) : List V → Hp → VK → Prop := fun vs H Q => ∃ (p a : Addr) (ls : List (Int × Int)), vs = [.ref p] ∧ H p = some (itemsO p a) ∧ H a = some (.dK (kvP ls)) ∧ ls.length < 64 ∧ (∀ e ∈ ls, TS.Bd B [e.1, e.2]) ∧
  ∀ (H' : Hp) (l : Addr) (ys : List V), Same H H' → H l = none → H' l = some (.lst ys) → PairL H' ys (sortP ls) → Q (.ref l) H'
theorem pget2 {α β : Type} {F : α → β → Prop} : ∀ {l : List α} {m : List β}, Paired F l m → ∀ {j : Nat} {b : β}, m[j]? = some b → ∃ a, l[j]? = some a ∧ F a b
  | _, _, .nil, j, b, h => by simp at h
  | _, _, .cons h1 h2, 0, b, h => by
    cases h
    exact ⟨_, rfl, h1⟩
  | _, _, .cons h1 h2, j + 1, b, h => pget2 h2 h
theorem cr_sortItI {B : Int} (hc : X.calm = true) : CallR X (.builtin "sorted") (rSortItI B) := by
  intro pins s σ H xs us Q I r h
  obtain ⟨p, a, ls, rfl, hp, ha, h64, hB, q⟩ := h
  obtain rfl := Vals.ref1 r
  have view : s.heap.IsItemsView p a := (show ObjOk X.prog X.w H s.heap p (itemsO p a) from I.hok p _ hp).1
  obtain ⟨z, hd, vs, rel, o, es, ep, ho, hx, hdat, hko, hpr, hnd⟩ := dk_of I.hok ha
  have l1 : (kvP ls).length = vs.length := Paired.length rel
  unfold kvP at l1
  rw [List.length_map] at l1
  have l2 : es.size = vs.length := by
    rw [← Array.length_toList]
    exact hpr.length
  have hh : X.A.handled = none := I.ok.hd hc
  refine DT.sortedI (es := es) (ep := ep) hh view ⟨o, ho, hx, hdat⟩ (by rw [sizeLine_eq]; omega) fun h' tk as hk hlt hl hG => ?_
  have lak : as.length = ls.length := by omega
  have nd : as.Nodup := List.Pairwise.imp (fun h => Nat.ne_of_lt h) hG.rise
  -- the pairs that were made
  have pr : ∀ (j : Nat) (b : Addr), as[j]? = some b → ∃ (e : Int × Int) (t1 t2 : Tok), ls[j]? = some e ∧ h'.get? b = some { cls := .type "tuple", data := .seq #[Value.int e.1 t1, Value.int e.2 t2] } := by
    intro j b hj
    obtain ⟨en, he, hg⟩ := hG.pairs j b hj
    rw [← Array.getElem?_toList] at he
    obtain ⟨kv, hkv, hki, hev⟩ := pairs_get hpr he
    obtain ⟨e0, he0, r1, r2⟩ := pget2 rel hkv
    unfold kvP at he0
    rw [List.getElem?_map] at he0
    cases hkj : ls[j]? with
    | none =>
      rw [hkj] at he0
      cases he0
    | some e =>
      rw [hkj] at he0
      have ee : (Sum.inl e.1, V.int e.2) = e0 := Option.some.inj he0
      rw [← ee] at r1 r2
      have hi : Value.isInt e.1 en.key = true := by
        have := hki
        rw [← r1] at this
        exact this
      obtain ⟨t1, h1⟩ := Value.isInt_shape hi
      obtain ⟨t2, h2⟩ := (show ∃ t, kv.2 = Value.int e.2 t from r2)
      refine ⟨e, t1, t2, rfl, ?_⟩
      rw [hg, h1, hev, h2]
  have hob : (h'.push { cls := .type "list", data := .seq (as.map Value.ref).toArray }).get? h'.objs.size = some (seqObj "list" (as.map Value.ref).toArray 0) := Heap.get?_push_size _ rfl
  have kb : ∀ b o, s.heap.get? b = some o → (h'.push { cls := .type "list", data := .seq (as.map Value.ref).toArray }).get? b = some o := fun b o e => Heap.get?_push_of_some _ (hk b o e)
  have ne0 : ∀ b o, h'.get? b = some o → b ≠ h'.objs.size := fun b o e => Nat.ne_of_lt (Heap.lt_size e)
  generalize hh2 : h'.push { cls := .type "list", data := .seq (as.map Value.ref).toArray } = h2 at hob kb ⊢
  have ka : ∀ b o, h'.get? b = some o → h2.get? b = some o := fun b o e => by rw [← hh2]; exact Heap.get?_push_of_some _ e
  have at_ : ∀ v ∈ as.map Value.ref, ∃ (j : Nat) (b : Addr), v = .ref b ∧ as[j]? = some b := by
    intro v hv'
    obtain ⟨b, hb, rfl⟩ := List.mem_map.mp hv'
    obtain ⟨j, hj⟩ := List.mem_iff_getElem?.mp hb
    exact ⟨j, b, rfl, hj⟩
  have ti : ∀ (j : Nat) (b : Addr) (e : Int × Int), as[j]? = some b → ls[j]? = some e → TS.TupInts h2 (.ref b) [e.1, e.2] := by
    intro j b e hj he
    obtain ⟨e', t1, t2, he', hg⟩ := pr j b hj
    have ee : e' = e := Option.some.inj (he'.symm.trans he)
    subst ee
    exact ⟨b, _, rfl, ⟨_, ka _ _ hg, rfl, 0, rfl⟩, .cons _ _ (.cons _ _ .nil)⟩
  refine TS.call_sort_tups (d := 2) (B := B) (s := { s with heap := h2, toks := tk }) hob (by rw [List.length_map]; omega) (by decide) (fun v hv => ?_) fun out o2 o3 => ?_
  · obtain ⟨j, b, rfl, hj⟩ := at_ v hv
    obtain ⟨e, _, _, he, _⟩ := pr j b hj
    exact ⟨[e.1, e.2], ti j b e hj he, rfl, hB e (List.mem_of_getElem? he)⟩
  · obtain ⟨zs, pz, ez⟩ := perm_lift (fun z : Addr × (Int × Int) => Value.ref z.1) o2 (as.zip ls) (by
      have e : (as.zip ls).map (fun z : Addr × (Int × Int) => Value.ref z.1) = ((as.zip ls).map Prod.fst).map Value.ref := by rw [List.map_map]; rfl
      rw [e, List.map_fst_zip (by rw [lak]; exact Nat.le_refl _)])
    have idx : ∀ z ∈ zs, ∃ j : Nat, as[j]? = some z.1 ∧ ls[j]? = some z.2 := by
      intro z' hz'
      obtain ⟨j, hj⟩ := List.mem_iff_getElem?.mp (pz.mem_iff.mp hz')
      exact ⟨j, List.getElem?_zip_eq_some.mp hj⟩
    have hout : out.toList = zs.map fun z => Value.ref z.1 := ez.symm
    have hperm : (zs.map (·.2)).Perm ls := by
      have e := pz.map (·.2)
      have m2 : (as.zip ls).map (·.2) = ls := List.map_snd_zip (by rw [lak]; exact Nat.le_refl _)
      rw [m2] at e
      exact e
    have hsort : zs.map (·.2) = sortP ls := by
      refine sortP_eq hperm ?_
      rw [hout, List.pairwise_map] at o3
      rw [List.pairwise_map]
      refine List.Pairwise.imp_of_mem (fun {x y} hx hy h => ?_) o3
      obtain ⟨j, j1, j2⟩ := idx x hx
      obtain ⟨i, i1, i2⟩ := idx y hy
      have h' : TS.code B (TS.intsOf h2 (.ref x.1)) ≤ TS.code B (TS.intsOf h2 (.ref y.1)) := h
      rw [(ti j _ _ j1 j2).ints, (ti i _ _ i1 i2).ints] at h'
      exact leP_iff.mpr (code_lex (hB _ (List.mem_of_getElem? j2)) (hB _ (List.mem_of_getElem? i2)) h')
    -- behind the sort
    have kF : ∀ b o, b ≠ h'.objs.size → h2.get? b = some o → (sortedHeap h2 h'.objs.size (as.map Value.ref) out).get? b = some o := fun b o hb e => (PyProof.Rows.sortedHeap_old hb (Heap.lt_size e)).trans e
    have kS : ∀ b o, s.heap.get? b = some o → (sortedHeap h2 h'.objs.size (as.map Value.ref) out).get? b = some o := fun b o e => kF b o (ne0 _ _ (hk b o e)) (kb b o e)
    obtain ⟨eF, heF⟩ := PyProof.Rows.sortedHeap_at (vs := as.map Value.ref) (out := out) hob
    have I1 : Inv X pins σ H { s with heap := sortedHeap h2 h'.objs.size (as.map Value.ref) out, toks := tk } := I.kept (t' := tk) kS
    have hn0 : H h'.objs.size = none := I.hok.fresh (Nat.le_of_lt hlt)
    have hlen : (zs.map fun z => V.ref z.1).length ≤ sizeLine := by
      have e := hperm.length_eq
      rw [List.length_map] at e
      rw [List.length_map, sizeLine_eq]
      omega
    have rv : Vals (zs.map fun z => V.ref z.1) out.toList := by
      rw [hout]
      exact vals_maps (fun z : Addr × (Int × Int) => V.ref z.1) (fun z => Value.ref z.1) zs fun _ _ => rfl
    have I2 : Inv X pins σ (upd H h'.objs.size (.lst (zs.map fun z => V.ref z.1))) { s with heap := sortedHeap h2 h'.objs.size (as.map Value.ref) out, toks := tk } :=
      I1.take (h' := sortedHeap h2 h'.objs.size (as.map Value.ref) out) (t' := tk) (fun b ob _ e => e) (I.fpOk (Nat.le_of_lt hlt) hn0) ⟨hlen, out.toList, eF, rv, heF⟩
    obtain ⟨H2, I3, g, qt⟩ := takeT (P := fun b vs => ∃ (j : Nat) (e : Int × Int), as[j]? = some b ∧ ls[j]? = some e ∧ vs = [.int e.1, .int e.2]) I as _ I2 nd fun b hb => by
      obtain ⟨j, hj⟩ := List.mem_iff_getElem?.mp hb
      obtain ⟨e, t1, t2, he, hg⟩ := pr j b hj
      have hlo : s.heap.objs.size ≤ b := Nat.le_of_lt (hG.above b hb)
      have hb2 : b ≠ h'.objs.size := ne0 _ _ hg
      refine ⟨hlo, by rw [upd_ne hb2]; exact I.hok.fresh hlo, _, ⟨j, e, hj, he, rfl⟩, fun H2 => ?_⟩
      exact ⟨(show 2 ≤ sizeLine by decide), [Value.int e.1 t1, Value.int e.2 t2], .cons ⟨t1, rfl⟩ (.cons ⟨t2, rfl⟩ .nil), _, kF b _ hb2 (ka _ _ hg), rfl, 0, rfl⟩
    refine ⟨.ref h'.objs.size, H2, I3, rfl, q H2 h'.objs.size (zs.map fun z => V.ref z.1) (fun b o e => g b o (by rw [upd_ne (ne_of_none e hn0)]; exact e)) hn0 (g _ _ upd_same) ?_⟩
    rw [← hsort]
    refine ⟨by rw [List.length_map, List.length_map], fun i x e h1 h2 => ?_⟩
    rw [List.getElem?_map] at h1 h2
    cases hz : zs[i]? with
    | none =>
      rw [hz] at h1
      cases h1
    | some z =>
      rw [hz] at h1 h2
      cases h1
      cases h2
      obtain ⟨j, j1, j2⟩ := idx z (List.mem_of_getElem? hz)
      obtain ⟨vs', ⟨j', e', k1, k2, k3⟩, hv⟩ := qt z.1 (List.mem_of_getElem? j1)
      have ej : j' = j := by
        have hj' := (List.getElem?_eq_some_iff.mp k1)
        have hj := (List.getElem?_eq_some_iff.mp j1)
        obtain ⟨a1, a2⟩ := hj'
        obtain ⟨b1, b2⟩ := hj
        exact (List.getElem_inj nd).mp (a2.trans b2.symm)
      subst ej
      have ee : e' = z.2 := Option.some.inj (k2.symm.trans j2)
      subst ee
      subst k3
      exact ⟨z.1, rfl, hv⟩
end
section
open L2.DX
variable {K : PySem.W.Frag} {H : Hp} {Q : VK} {a v : Addr}
theorem x_itemsI {kvs : List (L2.Key × V)} (h : H a = some (.dK kvs)) (q : ∀ p H1, H p = none → Same H H1 → H1 p = some (itemsO p a) → Q (.ref p) H1) : bm0K K "dict" rItemsI Q (.ref a) H :=
  ⟨.inr (.inr (.inl ⟨rfl, .inl ⟨_, h⟩⟩)), a, kvs, rfl, rfl, h, fun p hp => q p _ hp (same_upd hp) upd_same⟩
theorem x_sortItI {B : Int} {ls : List (Int × Int)} (hv : H v = some (itemsO v a)) (h : H a = some (.dK (kvP ls))) (hl : ls.length < 64) (hb : ∀ e ∈ ls, TS.Bd B [e.1, e.2]) (q : ∀ p ys H', H p = none → Same H H' → H' p = some (.lst ys) → PairL H' ys (sortP ls) → Q (.ref p) H') : rSortItI B [.ref v] H Q :=
  ⟨v, a, ls, rfl, hv, h, hl, hb, fun H' l ys s hn e hp => q l ys H' hn s e hp⟩
end
/-! ### min(xs, default=d), max(xs, default=d); Base.__init__(self, ..) -/
section

theorem reads_ints {h : Heap} : ∀ {vs : List Value} {ns : List Int}, Vals (ns.map V.int) vs → ReadsAll h vs (ns.map PyData.int) []
  | [], [], _ => .nil
  | [], _ :: _, r => nomatch r
  | _ :: _, [], r => nomatch r
  | v :: vs, n :: ns, .cons r t => by
    obtain ⟨k, rfl⟩ := (show ∃ t, v = Value.int n t from r)
    exact .cons (as := []) (bs := []) (.int n k) (reads_ints t)
theorem alike_ints (ns : List Int) : PySem.W.AlikeAll (ns.map PyData.int) := by
  constructor
  · intro x hx y hy
    obtain ⟨a, _, rfl⟩ := List.mem_map.mp hx
    obtain ⟨b, _, rfl⟩ := List.mem_map.mp hy
    rfl
  · intro x hx
    obtain ⟨a, _, rfl⟩ := List.mem_map.mp hx
    exact fun z => nomatch z
theorem depth_ints : ∀ ns : List Int, PyData.depthAll (ns.map PyData.int) = 0
  | [] => by simp [PyData.depthAll]
  | n :: ns => by
    rw [List.map_cons, PyData.depthAll, depth_ints ns]
    simp [PyData.depth]
def minZ (d : Int) : List Int → Int
  | [] => d
  | n :: ns => ns.foldl min n
def maxZ (d : Int) : List Int → Int
  | [] => d
  | n :: ns => ns.foldl max n
def rExtD (K : PySem.W.Frag) (f : Int → List Int → Int) : List V → List V → Hp → VK → Prop := fun vs zs H Q => ∃ (a : Addr) (ns : List Int) (d : Int), vs = [.ref a] ∧ zs = [.int d] ∧ SqL K H a (ns.map V.int) ∧ Q (.int (f d ns)) H
theorem cr_minD {X : Cx} (hu : X.A.units + 64 < cLine) (hc : X.calm = true := by rfl) : CallRK X (.builtin "min") [Str.ofString "default"] (rExtD X.K minZ) := by
  intro pins s σ H xs zs us ws Q I r r2 h
  obtain ⟨a, ns, d, rfl, rfl, hs, q⟩ := h
  obtain ⟨its, rv, hl, _⟩ := I.list hs
  rw [Vals.ref1 r]
  cases r2 with
  | @cons _ w0 _ wr rd rt =>
    cases rt
    obtain ⟨t, rfl⟩ := (show ∃ t, w0 = Value.int d t from rd)
    show wpAny _ _ (call (.builtin "min") [.ref a] [(Str.ofString "default", Value.int d t)]) _ _ _
    refine PySem.W.min_list_default (I.ok.hd hc) hl.isList (reads_ints (by simpa using rv)) (alike_ints ns) (by rw [depth_ints]; omega) (fun he h' tk hk => ?_) (fun y ys i v h' tk bs he hv hr hk => ?_)
    · have e : ns = [] := List.map_eq_nil_iff.mp he
      subst e
      exact ⟨.int d, H, I.kept hk, ⟨t, rfl⟩, q⟩
    · cases ns with
      | nil => cases he
      | cons n l =>
        have he' := List.cons.inj he
        rw [← he'.1, ← he'.2, PySem.W.minD_ints] at hr
        cases hr with
        | int _ k => exact ⟨.int _, H, I.kept hk, ⟨k, rfl⟩, q⟩
theorem cr_maxD {X : Cx} (hu : X.A.units + 64 < cLine) (hc : X.calm = true := by rfl) : CallRK X (.builtin "max") [Str.ofString "default"] (rExtD X.K maxZ) := by
  intro pins s σ H xs zs us ws Q I r r2 h
  obtain ⟨a, ns, d, rfl, rfl, hs, q⟩ := h
  obtain ⟨its, rv, hl, _⟩ := I.list hs
  rw [Vals.ref1 r]
  cases r2 with
  | @cons _ w0 _ wr rd rt =>
    cases rt
    obtain ⟨t, rfl⟩ := (show ∃ t, w0 = Value.int d t from rd)
    show wpAny _ _ (call (.builtin "max") [.ref a] [(Str.ofString "default", Value.int d t)]) _ _ _
    refine PySem.W.max_list_default (I.ok.hd hc) hl.isList (reads_ints (by simpa using rv)) (alike_ints ns) (by rw [depth_ints]; omega) (fun he h' tk hk => ?_) (fun y ys i v h' tk bs he hv hr hk => ?_)
    · have e : ns = [] := List.map_eq_nil_iff.mp he
      subst e
      exact ⟨.int d, H, I.kept hk, ⟨t, rfl⟩, q⟩
    · cases ns with
      | nil => cases he
      | cons n l =>
        have he' := List.cons.inj he
        rw [← he'.1, ← he'.2, PySem.W.maxD_ints] at hr
        cases hr with
        | int _ k => exact ⟨.int _, H, I.kept hk, ⟨k, rfl⟩, q⟩
theorem x_ckw {r : List V → List V → Hp → VK → Prop} {t tk : TA} {σ : L2.St} {H : Hp} {Q : VK} (h : t σ H fun vs H1 => tk σ H1 fun zs H2 => r vs zs H2 Q) : tCKw r t tk σ H Q := h
theorem x_extD {K : PySem.W.Frag} {f : Int → List Int → Int} {H : Hp} {Q : VK} {a : Addr} {ns : List Int} {d : Int} (h : SqL K H a (ns.map V.int)) (q : Q (.int (f d ns)) H) : rExtD K f [.ref a] [.int d] H Q := ⟨a, ns, d, rfl, rfl, h, q⟩
/-- C.__init__(self, ..), C an own class -/
structure CInit (K : PySem.W.Frag) (C f : Addr) : Prop where
  ga : PySem.W.specialIn K (.ref C) "__getattribute__" = some (some (.builtin "type.__getattribute__"))
  rd : PySem.W.readsIn K C (.type "type") = true
  fd : PySem.W.findCls K (.ref C) (.type "type") "__init__" = some (.val (.ref f))
theorem pe_cinit {X : Cx} {CX : CXT} {k : Nat} {f : Addr} {fd : FuncData} {ps : List Str} {sp : Sp} {E : L2.St → XK} {pl : Sem Bool} {x : Str} {C : Addr} {e : Expr} {es : List Expr} {t : TA} {p1 p2 pos : Pos} (w : CInit X.K C f) (F : FnOk X.prog X.w X.K X.mg X.base CX k f fd ps sp) (hr : Room k X.A)
    (hg : Gl X x) (hm : X.mg x = some (.ref C)) (hk : PySem.W.keepIn X.K (.ref f) = true) (hb : Binds X.K fd ps []) (hx : ∀ σ, PassesAt CX X σ (E σ)) (ha : PA X (e :: es) t) (hdb : (x == ("__debug__" : Str)) = false := by decide)
    (hc : eval (.Call (.Attribute (.Name x p1) "__init__" p2) (e :: es) [] pos) X.env = (do
      let ov ← eval (.Name x p1) X.env
      standAt p2.atName
      let (f, first) ← holding [ov] (getMethod ov "__init__" pl)
      callWith pos f first (backTo pos (starEach (e :: es) X.env)) (backToKw pos (keywordEach [] X.env))) := by rfl)
    (he : starEach (e :: es) X.env = (false, eval e X.env) :: starEach es X.env := by rfl) (hpl : (backTo pos (starEach es X.env)).any (·.1) = false := by rfl) :
    PE X (.Call (.Attribute (.Name x p1) "__init__" p2) (e :: es) [] pos) (tCallS sp E t) := by
  refine ⟨fun pins s σ H Q I h => ?_⟩
  refine PySem.W.methodCall_KW (ld_glob I hg hm ?_ hdb) hc
  refine PySem.W.method_cls I.kIn w.ga (PySem.W.cls_value I.kIn w.rd w.fd rfl ?_)
  refine PySem.W.callWith_K (first := []) (h₀ := X.base) I.ok.mod.kin hk (thn (ha.run pos pins _ σ H _ (I.tok _) h) fun us s1 ⟨vs, H1, I1, r, q⟩ => ⟨I1.kIn, ?_⟩) he hpl
  exact run_fnS F hr hb (hx σ) I1 r q
end
/-! isinstance(x, C) of an own instance -/
structure InsC (K : PySem.W.Frag) (C : Addr) : Prop where
  ha : PySem.W.findIn K (.ref C) "__class__" = some (some (.builtin "object.__class__"))
  hn : PySem.W.specialIn K (.builtin "object.__class__") "__get__" = some (some (.builtin "getset_descriptor.__get__"))
  ht : PySem.W.takesIn K (.builtin "object.__class__") = some true
  hm : PySem.W.mroIn K C (.type "object") = some true
theorem x_isI {K : PySem.W.Frag} {H : Hp} {Q : VK} {a C D dx : Addr} {fs : List (Str × V)} {b : Bool} (ho : H a = some (.ins C dx fs)) (hc : Cls K C) (i : InsC K C) (hk : PySem.W.kitOne K (.ref C) (.ref D) = some b) (q : Q (.bl b) H) : uIsi K [.ref a, .ref D] H Q :=
  ⟨.ref a, .ref D, .ref C, .ref D, b, rfl, .own D, .base (.ins ho hc i.ha i.hn i.ht i.hm), hk, q⟩
/-! ### a caught exception as an object that is tracked -/
section
/-- the object at a is oe -/
def PinO (a : Addr) (oe : Obj) : HO := .ext fun h => h.get? a = some oe
theorem pinO_ok {P : Program} {w : World} {H : Hp} {h : Heap} {a : Addr} {oe : Obj} (e : h.get? a = some oe) : ObjOk P w H h a (PinO a oe) := ⟨e, ⟨oe, e⟩, fun _ _ q k => k oe q⟩
/-- an exception of the class cls, its own dict at d -/
def ExV (H : Hp) (a : Addr) (cls : Value) (d : Option Addr) : Prop := ∃ oe, H a = some (PinO a oe) ∧ Zc cls d oe ∧ ∃ vs, oe.data = .fields vs
theorem ExV.mono {H H' : Hp} {a : Addr} {cls : Value} {d : Option Addr} (s : Same H H') (h : ExV H a cls d) : ExV H' a cls d := by
  obtain ⟨oe, e, r⟩ := h
  exact ⟨oe, s _ _ e, r⟩
variable {X : Cx} {pins : List (Addr × Obj)} {σ : L2.St} {H : Hp} {s sI : Shared}
theorem _root_.L2.Inv.track {a : Addr} {oe : Obj} {vs : Array Value} (J : Inv X pins σ H sI) (J4 : Inv X pins σ H s) (hx : X.ex = []) (hn : sI.heap.get? a = none) (na : H a = none) (ha : s.heap.get? a = some oe) (hd : oe.data = .fields vs) (nL : a ≠ X.env.locals) :
    Inv X pins σ (upd H a (PinO a oe)) s := by
  have ne : ∀ {b : Addr} {o : Obj}, sI.heap.get? b = some o → b ≠ a := fun e z => by
    rw [z, hn] at e
    cases e
  have n0 : ∀ {b : Addr} {o : Obj}, X.s_0.heap.get? b = some o → b ≠ a := fun {b o} e => by
    obtain ⟨o', e'⟩ := J.base.there b o e (by rw [hx]; exact fun z => nomatch z)
    exact ne e'
  have keep : ∀ {b : Addr} {u : HO}, H b = some u → upd H a (PinO a oe) b = some u := fun e => by
    rw [upd_ne (ne_of_none e na)]
    exact e
  refine ⟨J4.ok, J4.os, J4.bare, ⟨J4.base.keep, J4.base.slot, fun b o e n hq => ?_, J4.base.there, fun b xs e => keep (J4.base.tups b xs e), fun b o u e => keep (J4.base.frzs b o u e), fun b ps e => ?_⟩, J4.loc, J4.cell, ?_, fun x c e => ?_, fun p hp => ?_, J4.hok.laidN (fun _ _ e => e) na (pinO_ok ha), J4.len⟩
  · rw [upd_ne (n0 e)]
    exact J4.base.free b o e n hq
  · obtain ⟨m, q⟩ := J4.base.tbls b ps e
    exact ⟨m, keep q⟩
  · rw [upd_ne (Ne.symm nL)]
    exact J4.free
  · have hc : c ≠ a := fun z => by
      obtain ⟨v, o, ho, hv⟩ := J4.cell x c e
      rw [z, ha] at ho
      cases ho
      rw [hd] at hv
      cases hv
    rw [upd_ne hc]
    exact J4.freeC x c e
  · obtain ⟨e, n, r⟩ := J4.pin p hp
    have hp' : p.1 ≠ a := ne (J.pin p hp).1
    exact ⟨e, by rw [upd_ne hp']; exact n, r⟩
theorem _root_.L2.Inv.suiteN (I : Inv X pins σ H s) {a : Addr} : Inv (X.suite a (X.pn ++ pins)) [] σ H s :=
  ⟨I.ok.suite _ _, I.os, I.bare, I.base, I.loc, I.cell, I.free, I.freeC, fun p hp => I.pin p (by rw [List.append_nil] at hp; exact hp), I.hok, I.len⟩
theorem _root_.L2.Inv.unsuiteN {a : Addr} {pn' : List (Addr × Obj)} (I : Inv (X.suite a (X.pn ++ pins)) pn' σ H s) (ok : X.Ok) : Inv X pins σ H s :=
  ⟨ok, I.os, I.bare, I.base, I.loc, I.cell, I.free, I.freeC, fun p hp => I.pin p (List.mem_append_left _ hp), I.hok, I.len⟩
end
section
variable {X : Cx} {x n : Str} {c : Value} {i : Nat} {body suite : List Stmt} {b₀ : Stmt} {np pos pos' : Pos} {tb : WX → TS} {ts : TS} {Wout : WX}
def wAsK (K : PySem.W.Frag) (c : Value) (i : Nat) (ts : TS) (Wout : WX) (D : Ends) : WX := fun cls d σ H =>
  ∃ b, PySem.W.exmOne K cls c = some b ∧ (b = true → ∀ a oe, H a = none → Zc cls d oe → (∃ vs, oe.data = .fields vs) → ts { nx := fun σ' H' => D.nx (σ'.set i none) H', rt := D.rt, bk := fun σ' H' => D.bk (σ'.set i none) H', ct := fun σ' H' => D.ct (σ'.set i none) H' } (σ.set i (some (.ref a))) (upd H a (PinO a oe))) ∧
    (b = false → Wout cls d σ H)
def tTryK (K : PySem.W.Frag) (c : Value) (i : Nat) (tb : WX → TS) (ts : TS) (Wout : WX) : TS := fun D σ H => tb (wAsK K c i ts Wout D) D σ H
theorem ps_tryK (hs : X.stack = X.env :: X.outer) (hf : X.env.frame = some X.env.locals) (hex : X.ex = []) (hN : X.N.Nodup) (hi : X.N[i]? = some n) (hln : X.env.kindOf n = some .local) (hc : Names X x c) (tk : Takes X Wout)
    (hb : ∀ (W : WX) (pn : List (Addr × Obj)) (xe : Value → Shared → Prop), Takes (X.tr pn xe) W → PassesOwn (model X.prog X.w) X.A X.env xe → PSs (X.tr pn xe) body (tb W))
    (hsu : ∀ (a : Addr) (pn : List (Addr × Obj)), PSs (X.suite a pn) (b₀ :: suite) ts) :
    PS X (.Try body [.ExceptHandler (some (.Name x np)) (some n) (b₀ :: suite) pos'] [] [] pos) (tTryK X.K c i tb ts Wout) := by
  refine ⟨fun pins s σ H D I h => ?_⟩
  have ok := I.ok
  have hfr : X.A.frames = some (X.env :: X.outer) := by rw [ok.frames, hs]
  have hloc : Loc X.env.scope n := .inl hln
  refine wpAny_Try_except ?_
  refine wpAny_mono ((hb (wAsK X.K c i ts Wout D) (X.pn ++ pins) (fun e s₁ => wpAny (model X.prog X.w) X.A (noteFrame e X.env) (fun _ s₂ => wpAny (model X.prog X.w) X.A (setFlight e none) (fun _ s₃ =>
    wpAny (model X.prog X.w) X.A (handleBy e X.env [.ExceptHandler (some (.Name x np)) (some n) (b₀ :: suite) pos']) (SP X pins D) X.xe s₃) X.xe s₂) X.xe s₁) (fun u s' xx => ?_) PassesOwn.looking).run [] s σ H D (I.toTry _) h) (fun f s1 hsp => ?_) (fun e s1 he => he)
  · -- the catch
    obtain ⟨a, B, sI, pins', σ', H', cls, d, rfl, J', nb, up, sky, na, os, ag, b, hb1, hyes, hno⟩ := xx
    have J : Inv X pins σ' H' sI := J'.ofTry ok
    have sky' : Sky B (X.env :: X.outer) a (Zc cls d) X.env.locals s'.heap := by rw [← hs]; exact sky
    show wpAny (model X.prog X.w) X.A (noteFrame (.ref a) X.env) _ _ _
    refine Sky.land Zc.steady hfr hf sky' fun h3 fl3 up3 => ?_
    have J3 : Inv X pins σ' H' { s' with heap := h3 } := J.landed nb fl3.1 (up.trans up3) os ag
    obtain ⟨oe3, vs3, he3, hz3, hd3⟩ := fl3.there
    have notFr : ∀ {h : Heap} {o : Obj} {vs : Array Value}, h.FunFrames B (X.env :: X.outer) → h.get? a = some o → o.data = .fields vs → a ∉ frs (X.env :: X.outer) := fun {h o vs} ff e dd hm => by
      obtain ⟨_, o', e', hnf⟩ := ff.mem hm
      rw [e] at e'; cases e'
      exact hnf _ dd
    have nfr := notFr fl3.2.2.1 he3 hd3
    have hnI : sI.heap.get? a = none := by
      cases e : sI.heap.get? a with
      | none => rfl
      | some o =>
        have q := nb a o e (by rw [hs]; exact nfr)
        rw [fl3.2.1] at q
        cases q
    have nL : a ≠ X.env.locals := fun z => nfr (List.mem_filterMap.mpr ⟨X.env, List.mem_cons_self, by rw [hf, z]⟩)
    have nF : a ∉ X.fs := fun hm => by
      obtain ⟨e, he, q⟩ := List.mem_filterMap.mp hm
      exact nfr (List.mem_filterMap.mpr ⟨e, List.mem_cons_of_mem _ he, q⟩)
    have S3 := J3.suite he3 hd3 na nL nF
    refine wpAny_handleBy_cons (codeAny_handlers_test ?_) (by intro q; cases q)
    have LT : PySem.W.Looks (model X.prog X.w) h3 (typeOf (.ref a)) cls := fun A Q E s k q => wpAny_typeOf_ref (k _ _ he3) (by rw [hz3.1]; exact q)
    have LM := PySem.W.exm_one (M := model X.prog X.w) (J3.kIn) LT hb1
    have test : ∀ {Q : Value → Shared → Prop} {E : Value → Shared → Prop}, Q c { s' with heap := h3 } → wpAny (model X.prog X.w) (X.A.mark (some (.ref a))) (eval (.Name x np) X.env) Q E { s' with heap := h3 } := fun {Q E} q => by
      obtain ⟨hg, hdbg, hm | ⟨hm, hv, hnn⟩⟩ := hc
      · exact ld_glob (X := X.suite a ((a, oe3) :: (X.pn ++ pins))) S3 hg hm q hdbg
      · exact ld_blt (X := X.suite a ((a, oe3) :: (X.pn ++ pins))) S3 hg hm hv q hnn hdbg
    refine test (LM.here ?_)
    cases b with
    | true =>
      refine codeAny_handlers_suite_as ?_
      refine HandSPX.lands_againZ fl3 fun h4 fl4 up4 => ?_
      have J4 : Inv X pins σ' H' { s' with heap := h4 } := J.landed nb fl4.1 ((up.trans up3).trans up4) os ag
      obtain ⟨oe4, vs4, he4, hz4, hd4⟩ := fl4.there
      have S4 := (J.track J4 hex hnI na he4 hd4 nL).suiteN (a := a)
      refine store_ok (X := X.suite a (X.pn ++ pins)) (v := .ref a) S4 hN hi hloc rfl (fun s5 S5 => ?_) (.inr hln)
      refine wpAny_mono ((hsu a (X.pn ++ pins)).run [] s5 _ _ _ S5 (hyes rfl a oe4 na hz4 ⟨_, hd4⟩)) (fun f s6 hsp => ?_) (fun _ _ z => False.elim z)
      have end_ : ∀ {σ6 : L2.St} {H6 : Hp} {Q : Shared → Prop}, Inv (X.suite a (X.pn ++ pins)) [] σ6 H6 s6 → (∀ s7, Inv X pins (σ6.set i none) H6 s7 → Q s7) →
          wpAny (model X.prog X.w) X.A (do bindName X.env n .none; unbindBehindTheSuite X.env n pos') (fun _ s7 => Q s7) X.xe s6 := fun {σ6 H6 Q} S6 hq => gone_ok (S6.unsuiteN ok) hN hi hln hq
      cases f with
      | next =>
        obtain ⟨σ6, H6, S6, q6⟩ := hsp
        exact end_ S6 fun s7 J7 => ⟨_, _, J7, q6⟩
      | brk =>
        obtain ⟨σ6, H6, S6, q6⟩ := hsp
        exact end_ S6 fun s7 J7 => ⟨_, _, J7, q6⟩
      | cont =>
        obtain ⟨σ6, H6, S6, q6⟩ := hsp
        exact end_ S6 fun s7 J7 => ⟨_, _, J7, q6⟩
      | ret u =>
        obtain ⟨v6, σ6, H6, S6, r6, q6⟩ := hsp
        exact end_ S6 fun s7 J7 => ⟨_, _, _, J7, r6, q6⟩
    | false =>
      show wpAny _ X.A (handleBy (.ref a) X.env []) _ _ _
      refine wpAny_handleBy_nil ?_
      obtain ⟨k1, k2, k3, oe, vs, T, oT, ts', he, hz, hd, h1, hr⟩ := id fl3
      unfold PySem.passOn
      refine wpAny_bind (wpAny_field he hd h1 ?_)
      rw [if_neg (show ¬ ((Value.ref T == Value.none) = true) from by simp)]
      have fin : wpAny (model X.prog X.w) X.A (setFlight (.ref a) X.env.frame) (fun _ s4 => wpAny (model X.prog X.w) X.A (throw (.ref a) : Sem Flow) (SP X pins D) X.xe s4) X.xe { s' with heap := h3 } := by
        rw [hf]
        refine HandSPX.setFlight_upZ fl3 fun h4 hh4 up4 => wpAny_throw (tk _ _ ?_)
        exact ⟨a, B, sI, pins, σ', H', cls, d, rfl, J, nb, (up.trans up3).trans up4, .inr (.inr (by rw [hs]; exact hh4)), na, os, ag, hno rfl⟩
      first
        | exact wpAny_bind (wpAny_pure (wpAny_bind fin))
        | exact wpAny_bind fin
  · cases f with
    | next =>
      obtain ⟨σ', H', J', q⟩ := hsp
      exact wpAny_execs_nil ⟨σ', H', J'.ofTry ok, q⟩
    | brk =>
      obtain ⟨σ', H', J', q⟩ := hsp
      exact ⟨σ', H', J'.ofTry ok, q⟩
    | cont =>
      obtain ⟨σ', H', J', q⟩ := hsp
      exact ⟨σ', H', J'.ofTry ok, q⟩
    | ret u =>
      obtain ⟨v, σ', H', J', r, q⟩ := hsp
      exact ⟨v, σ', H', J'.ofTry ok, r, q⟩
variable {K : PySem.W.Frag} {D : Ends} {σ : L2.St} {H : Hp} {cls : Value} {d : Option Addr}
theorem x_tryK (h : tb (wAsK K c i ts Wout D) D σ H) : tTryK K c i tb ts Wout D σ H := h
theorem x_seqTK {u : TS} (h : tTryK K c i tb ts Wout { D with nx := u D } σ H) : tSeq (tTryK K c i tb ts Wout) u D σ H := h
theorem x_asKT (hx : PySem.W.exmOne K cls c = some true)
    (q : ∀ a H1, H a = none → Same H H1 → ExV H1 a cls d → ts { nx := fun σ' H' => D.nx (σ'.set i none) H', rt := D.rt, bk := fun σ' H' => D.bk (σ'.set i none) H', ct := fun σ' H' => D.ct (σ'.set i none) H' } (σ.set i (some (.ref a))) H1) : wAsK K c i ts Wout D cls d σ H :=
  ⟨true, hx, fun _ a oe na hz hd => q a _ na (same_upd na) ⟨oe, upd_same, hz, hd⟩, fun z => nomatch z⟩
theorem x_asKF (hx : PySem.W.exmOne K cls c = some false) (q : Wout cls d σ H) : wAsK K c i ts Wout D cls d σ H := ⟨false, hx, (fun z => nomatch z), fun _ => q⟩
end
/-! a def that is called in an except suite -/
section
open L2H
structure FnS (P : Program) (w : World) (K : PySem.W.Frag) (mg : Str → Option Value) (base : Heap) (CX : CXT) (k : Nat) (f : Addr) (fd : FuncData) (ps : List Str) (sp : Sp) : Prop where
  len : ∀ vs H Q E, sp vs H Q E → vs.length = ps.length
  run : ∀ (A : Around) (outer : List Env) (s : Shared) (H : Hp) (args : Args) (us : List Value) (vs : List V) (Q : VK) (E : XK), RoomH k A → Env0 P w K mg base A outer s H → BindsTo s fd args (ps.zip us) → Vals vs us → sp vs H Q E →
    codeAny (model P w) A (.call (.ref f) args) (CR CX outer P w H s Q E) s
theorem _root_.L2.Fun.okS {P : Program} {w : World} {K : PySem.W.Frag} {mg : Str → Option Value} {base : Heap} {x qual : Str} {st : Stmt} {f : Addr} {fd : FuncData} {N ps : List Str} {k : Nat} {sp : Sp} (F : Fun K x qual st f fd) (S : FnScope N ps (defScope st)) (len : ∀ vs H Q E, sp vs H Q E → vs.length = ps.length)
    (hbody : ∀ (cdv : Value) (A : Around) (outer : List Env) (s : Shared) (H : Hp) (vs : List V) (Q : VK) (E : XK) (p : Addr × Obj), RoomH k (A.deeper (envOfC qual (defScope st) s.heap.objs.size f cdv)) → sp vs H Q E →
      ∃ t, PSs (cxH (L2.CX P w) P w K mg base N qual (defScope st) f cdv A outer s H E p) (defBody st) t ∧ t { nx := fun _ H' => Q .non H', rt := Q } (L2.start N vs) H) : FnS P w K mg base (L2.CX P w) (k + 1) f fd ps sp := by
  obtain ⟨oc, od, kV, doc, pm, an, cdv, ct, osl, rfl, lk, hcd⟩ := F.ex
  refine ⟨len, fun A outer s H args us vs Q E hr e0 hb r hsp => ?_⟩
  have hl := len _ _ _ _ hsp
  have KX : K.In s.heap := e0.mod.kin.keeps fun b o e => (e0.bs b o e).1
  have lim : s.heap.NoLimit := e0.mod.nolimit.keeps fun b o e => (e0.bs b o e).1
  have hkind : ∀ y ∈ ps.zip us, (defScope st).names.lookup y.1 = some .local ∨ ((defScope st).names.lookup y.1 = some .cell ∧ ((cellsFrom (s.heap.objs.size + 1) (defScope st).names []).lookup y.1).isSome = true) := fun ⟨n, v⟩ hy => by
    rcases S.par n (List.of_mem_zip hy).1 with q | q
    · exact .inl q
    · exact .inr ⟨q, PySem.W.cellsFrom_some _ _ _ (.inl q)⟩
  have hfb := e0.mod.kin _ _ lk
  have hpin : PinOk outer H s (f, ⟨oc, od, .func (PySem.W.fnOf x qual (defArgs st) (defBody st) (defScope st) .none kV doc pm an cdv ct), osl⟩) := ⟨(e0.bs _ _ hfb).1, (e0.bs _ _ hfb).2, fun hm => (by
    have := (e0.funs.mem hm).1
    rw [hfb] at this
    cases this), fun v z => (by cases z)⟩
  refine codeAny_call_function hr.depth (KX _ _ lk) rfl S.co S.gen rfl (PySem.W.codeRec_of KX hcd) (hb _ _ _ _ ?_)
  refine wpAny_newFunctionEnv_cells S.kind hkind fun env he s1 y => ?_
  subst he
  refine ⟨lim.keeps y.toInCall.keep, codeAny_func ?_⟩
  obtain ⟨t, ht, hq⟩ := hbody cdv A outer s H vs Q E _ (hr.deeper _) hsp
  have I := inv_startH (CX := L2.CX P w) (N := N) (E := E) S hpin e0 hl r y
  refine wpAny_mono (ht.run [] s1 (L2.start N vs) H _ I hq) (fun fl s' hs => ?_) fun e s' hs => hs
  have fin : ∀ {σ' : L2.St} {H' : Hp} {v : V} {u : Value}, Inv (cxH (L2.CX P w) P w K mg base N qual (defScope st) f cdv A outer s H E (f, ⟨oc, od, .func (PySem.W.fnOf x qual (defArgs st) (defBody st) (defScope st) .none kV doc pm an cdv ct), osl⟩)) [] σ' H' s' → L2.RelV v u → Q v H' → CE outer P w H s Q u s' :=
    fun {σ' H' v u} J rv q => ⟨v, H', J.os, J.bare, J.base, J.hok, rv, q⟩
  cases fl with
  | ret u =>
    obtain ⟨v, σ', H', J, rv, q⟩ := hs
    exact fin J rv q
  | next =>
    obtain ⟨σ', H', J, q⟩ := hs
    exact fin (v := V.non) (u := Value.none) J rfl q
  | brk =>
    obtain ⟨_, _, _, q⟩ := hs
    exact False.elim q
  | cont =>
    obtain ⟨_, _, _, q⟩ := hs
    exact False.elim q
variable {X : Cx} {CX : CXT} {k : Nat} {f : Addr} {fd : FuncData} {ps : List Str} {sp : Sp} {E : L2.St → XK} {x : Str} {q pos : Pos} {e : Expr} {es : List Expr} {t : TA}
theorem pe_callSu (F : FnS X.prog X.w X.K X.mg X.base CX k f fd ps sp) (hr : RoomH k X.A) (hg : Gl X x) (hm : X.mg x = some (.ref f)) (hk : PySem.W.keepIn X.K (.ref f) = true) (hb : Binds X.K fd ps []) (hx : ∀ σ, PassesAt CX X σ (E σ))
    (ha : PA X (e :: es) t) (hdb : (x == ("__debug__" : Str)) = false := by decide) (he : starEach (e :: es) X.env = (false, eval e X.env) :: starEach es X.env := by rfl) (hpl : (backTo pos (starEach es X.env)).any (·.1) = false := by rfl) :
    PE X (.Call (.Name x q) (e :: es) [] pos) (tCallS sp E t) := by
  refine ⟨fun pins s σ H Q I h => ?_⟩
  refine wpAny_Call_Name_kw (ld_glob I hg hm ?_ hdb)
  refine PySem.W.callWith_K (h₀ := X.base) I.ok.mod.kin hk (thn (ha.run pos pins s σ H _ I h) fun us s1 ⟨vs, H1, I1, r, q⟩ => ⟨I1.kIn, ?_⟩) he hpl
  have hl : us.length = ps.length := by rw [← r.length]; exact F.len _ _ _ _ q
  have b := hb s1 us I1.kIn (by rw [List.append_nil]; exact hl)
  rw [List.append_nil] at b
  refine wpAny_call (codeAny_mono (F.run X.A X.stack s1 H1 ⟨us, []⟩ us vs Q (E σ) hr I1.env0 b r q) fun r s' hq => ?_)
  cases r with
  | error e => exact hx σ pins H1 s1 e s' I1 hq
  | ok fl =>
    cases fl with
    | ret u => exact I1.after hq
    | next => exact False.elim hq
    | brk => exact False.elim hq
    | cont => exact False.elim hq
abbrev FS (P : Program) (w : World) (K : PySem.W.Frag) (mg : Str → Option Value) (base : Heap) := FnS P w K mg base (L2.CX P w)
/-- isinstance(e, c), e an exception without fields that is tracked -/
def rIsV (K : PySem.W.Frag) : List V → Hp → VK → Prop := fun xs H Q => ∃ (a E : Addr) (c : V) (cv : Value) (b : Bool), xs = [.ref a, c] ∧ ExV H a (.ref E) none ∧ ExcC K E ∧ (∀ u, RelV c u → u = cv) ∧ PySem.W.kitOne K (.ref E) cv = some b ∧ Q (.bl b) H
theorem cr_isV : CallR X (.builtin "isinstance") (rIsV X.K) := by
  intro pins s σ H xs us Q I r h
  obtain ⟨a, E, c, cv, b, rfl, ⟨oe, ha, hz, hf⟩, C, hcv, e, q⟩ := h
  cases r with
  | cons rx rr =>
    cases rr with
    | cons rt rr =>
      cases rr
      cases rx
      have ec := hcv _ rt
      subst ec
      have hget : s.heap.get? a = some oe := (show ObjOk X.prog X.w H s.heap a (PinO a oe) from I.hok a _ ha).1
      obtain ⟨vs, hv⟩ := hf
      have J : PySem.W.InstAt s.heap a oe E none := by
        obtain ⟨oc, od, oda, osl⟩ := oe
        obtain ⟨h1, h2⟩ := hz
        dsimp only at h1 h2 hv
        subst h1 h2 hv
        exact ⟨hget, rfl, rfl, trivial⟩
      exact PySem.W.kia_one (PySem.W.handS_kitx_exc C.hg C.hk C.hs C.hd C.ha C.hn C.ht C.hm) I.kIn J e (fun z => nomatch z) fun tk => ⟨.bl b, H, I.kept (t' := tk) fun _ _ z => z, rfl, q⟩
variable {K : PySem.W.Frag} {H : Hp} {Q : VK} {a : Addr}
theorem _root_.L2.Room.suite {j k : Nat} {A : Around} {x : Option Value} (r : Room k A) (h : j ≤ k) : RoomH j (A.mark x) := ⟨(r.mono h).dp, (r.mono h).un⟩
theorem ExV.off1 {H H' : Hp} {a p : Addr} {cls : Value} {d : Option Addr} (s : Off [p] H H') (h : ExV H a cls d) (n : a ≠ p) : ExV H' a cls d := by
  obtain ⟨oe, e, r⟩ := h
  exact ⟨oe, s.at e (nin_of n), r⟩
theorem ExV.ne {H : Hp} {a p : Addr} {cls : Value} {d : Option Addr} (h : ExV H a cls d) (n : H p = none) : a ≠ p := by
  obtain ⟨oe, e, r⟩ := h
  exact ne_of_none e n
theorem x_isVC {E C : Addr} {b : Bool} (h : ExV H a (.ref E) none) (hE : ExcC K E) (hk : PySem.W.kitOne K (.ref E) (.ref C) = some b) (q : Q (.bl b) H) : rIsV K [.ref a, .ref C] H Q := ⟨a, E, _, .ref C, b, rfl, h, hE, fun _ z => z, hk, q⟩
theorem x_isVT {E : Addr} {t : String} {b : Bool} (h : ExV H a (.ref E) none) (hE : ExcC K E) (hk : PySem.W.kitOne K (.ref E) (.type t) = some b) (q : Q (.bl b) H) : rIsV K [.ref a, .ty t] H Q := ⟨a, E, _, .type t, b, rfl, h, hE, fun _ z => z, hk, q⟩
end
end Kit
/-! ### the head's facts, read by a Hook of one's own -/
namespace Kit
open PySem PySem.Spec PyProof.Rows L2
section
abbrev FnWK : Type := Bool × List He.FnW
/-- lists of numbers, a part of the heap: told when they are made -/
def frList {α : Type} : List Addr → (List Addr → α) → α
  | [], k => k []
  | a :: r, k => HandSHeadRun.frNat a fun a => frList r fun r => k (a :: r)
theorem frList_eq {α : Type} : ∀ (l : List Addr) (k : List Addr → α), frList l k = k l
  | [], _ => rfl
  | a :: r, k => by
    show HandSHeadRun.frNat a (fun a => frList r fun r => k (a :: r)) = _
    rw [HandSHeadRun.frNat_eq, frList_eq r]
def frFr {α : Type} (g : Addr → Option Obj) : List Addr → (PySem.W.Frag → α) → α
  | [], k => k []
  | a :: r, k => match g a with
    | some ⟨c, d, dt, sl⟩ => frFr g r fun F => k ((a, ⟨c, d, dt, sl⟩) :: F)
    | none => frFr g r k
theorem frFr_eq {α : Type} {g : Addr → Option Obj} : ∀ (l : List Addr) (k : PySem.W.Frag → α), frFr g l k = k (He.frG g l)
  | [], _ => rfl
  | a :: r, k => by
    unfold frFr He.frG
    rw [List.filterMap_cons]
    cases h : g a with
    | none => exact frFr_eq r k
    | some o =>
      obtain ⟨c, d, dt, sl⟩ := o
      exact frFr_eq r _
/-- a def: its place in the list of addresses, its text -/
structure DefK where
  i : Nat
  name : Str
  qual : Str
  params : Arguments
  body : List Stmt
  scope : Scope
  dfl : List He.Dv := []
def fnKW (K : PySem.W.Frag) (a : Addr) : He.FnW := match K.lookup a with
  | some ⟨_, _, .func fd, _⟩ => some (fd.name, fd.qualname, fd.params, fd.body, fd.scope, fd.globals, fd.closure, fd.builtins)
  | _ => none
def DefK.val (d : DefK) : He.FnW := some (d.name, d.qual, d.params, .stmts d.body, d.scope, mainGlobals, [], builtinsNs)
def DefK.dvs (K : PySem.W.Frag) (d : DefK) : List V := d.dfl.map (He.Dv.v K)
def DefK.ok (K : PySem.W.Frag) (A : List Addr) (d : DefK) : Bool := PySem.W.keepIn K (.ref (A.getD d.i 0)) && (match K.lookup (A.getD d.i 0) with
  | some ⟨_, _, .func fd, _⟩ => PySem.W.codeIn K fd.code d.qual && (He.dflB K fd.defaults (d.dvs K) && He.kwdB K fd.kwdefaults [])
  | _ => false)
theorem DefK.funD {K : PySem.W.Frag} {A : List Addr} {d : DefK} (e : fnKW K (A.getD d.i 0) = d.val) (c : d.ok K A = true) : ∃ fd, FunD K d.name d.qual d.params d.body d.scope (d.dvs K) [] (A.getD d.i 0) fd := by
  obtain ⟨kp, c2⟩ := He.ba c
  unfold fnKW at e
  cases q : K.lookup (A.getD d.i 0) with
  | none =>
    rw [q] at c2
    cases c2
  | some o =>
    obtain ⟨oc, od, dt, osl⟩ := o
    rw [q] at c2 e
    cases dt with
    | func fd =>
      obtain ⟨n1, n2, n3, n4, n5, n6, n7, n8, n9, n10, n11, n12, n13, n14, n15⟩ := fd
      have e2 : (some (n1, n2, n3, n4, n5, n6, n7, n15) : He.FnW) = some (d.name, d.qual, d.params, .stmts d.body, d.scope, mainGlobals, [], builtinsNs) := e
      simp only [Option.some.injEq, Prod.mk.injEq] at e2
      obtain ⟨h1, h2, h3, h4, h5, h6, h7, h8⟩ := e2
      subst h1 h2 h3 h4 h5 h6 h7 h8
      have c3 : (PySem.W.codeIn K n13 d.qual && (He.dflB K n8 (d.dvs K) && He.kwdB K n9 [])) = true := c2
      obtain ⟨k1, k2⟩ := He.ba c3
      obtain ⟨k3, k4⟩ := He.ba k2
      exact ⟨_, ⟨oc, od, n8, n9, n10, n11, n12, n13, n14, osl, rfl, q, k1, He.dflB_ok k3, He.kwdB_ok k4⟩, kp⟩
    | _ => cases c2
abbrev FsK : Type := PySem.W.Frag → List Addr → Bool
def obsK (fs : FsK) (fn : List DefK) (K : PySem.W.Frag) (A : List Addr) : FnWK := (fs K A && fn.all fun d => d.ok K A, fn.map fun d => fnKW K (A.getD d.i 0))
def valK (fn : List DefK) : FnWK := (true, fn.map DefK.val)
def SaysK (fs : FsK) (fn : List DefK) (K : PySem.W.Frag) (A : List Addr) : Prop := obsK fs fn K A = valK fn
def obsKG (ls : (Addr → Option Obj) → List Addr) (fs : FsK) (fn : List DefK) (g : Addr → Option Obj) : FnWK := frList (ls g) fun A => frFr g A fun K => obsK fs fn K A
theorem obsKG_is {ls : (Addr → Option Obj) → List Addr} {fs : FsK} {fn : List DefK} {g : Addr → Option Obj} : obsKG ls fs fn g = obsK fs fn (He.frG g (ls g)) (ls g) := by
  unfold obsKG
  rw [frList_eq, frFr_eq]
def hookK (ls : (Addr → Option Obj) → List Addr) (fs : FsK) (fn : List DefK) : PySem.W.Hook where
  α := FnWK
  obs := fun s => obsKG ls fs fn s.heap.get?
  val := fun _ => valK fn
  says := fun _ h => ∃ (K : PySem.W.Frag) (A : List Addr), K.In h ∧ SaysK fs fn K A
  of := fun _ _ e => ⟨_, _, He.frG_in, obsKG_is.symm.trans e⟩
  keeps := fun _ _ _ ⟨K, A, hK, c⟩ k => ⟨K, A, PySem.W.Frag.In.keeps hK k, c⟩
theorem obsKG_eq {ls : (Addr → Option Obj) → List Addr} {fs : FsK} {fn : List DefK} {g : Addr → Option Obj} {s : Shared} (h : ∀ a, g a = s.heap.get? a) : obsKG ls fs fn g = (hookK ls fs fn).obs s := by
  have e : g = s.heap.get? := funext h
  rw [e] <;> rfl
variable {fs : FsK} {fn : List DefK} {K : PySem.W.Frag} {A : List Addr}
theorem SaysK.facts (c : SaysK fs fn K A) : fs K A = true := (He.ba (show (fs K A && fn.all fun d => d.ok K A) = true from congrArg (fun z : FnWK => z.1) c)).1
theorem SaysK.def_ (c : SaysK fs fn K A) (i : Nat) {d : DefK} (h : fn[i]? = some d := by rfl) : ∃ fd, FunD K d.name d.qual d.params d.body d.scope (d.dvs K) [] (A.getD d.i 0) fd := by
  have c2 := (He.ba (show (fs K A && fn.all fun d => d.ok K A) = true from congrArg (fun z : FnWK => z.1) c)).2
  have e : fn.map (fun d => fnKW K (A.getD d.i 0)) = fn.map DefK.val := congrArg (fun z : FnWK => z.2) c
  have e2 : (fn.map fun d => fnKW K (A.getD d.i 0))[i]? = (fn.map DefK.val)[i]? := by rw [e]
  rw [List.getElem?_map, List.getElem?_map, h] at e2
  exact DefK.funD (Option.some.inj e2) (List.all_eq_true.mp c2 d (List.mem_of_getElem? h))
/-! addresses of the program's objects -/
def gK (g : Addr → Option Obj) (x : Str) : Addr := match PySem.W.nsIn (He.frG g [mainGlobals]) mainGlobals x with
  | some (some (.ref a)) => a
  | _ => 0
def nsK (g : Addr → Option Obj) (a : Addr) : Addr := match g a with
  | some ⟨_, _, .cls cd, _⟩ => cd.ns
  | _ => 0
def mK (g : Addr → Option Obj) (c m : Str) : Addr := match PySem.W.nsIn (He.frG g [nsK g (gK g c)]) (nsK g (gK g c)) m with
  | some (some (.ref a)) => a
  | _ => 0
def cdK (g : Addr → Option Obj) (a : Addr) : Addr := match g a with
  | some ⟨_, _, .func fd, _⟩ => (match fd.code with
    | .ref b => b
    | _ => 0)
  | _ => 0
def dfK (g : Addr → Option Obj) (a : Addr) : Addr := match g a with
  | some ⟨_, _, .func fd, _⟩ => (match fd.defaults with
    | .ref b => b
    | _ => 0)
  | _ => 0
/-- what a class finds, as one Bool -/
def fclB (o : Option PySem.W.CFound) (v : Value) : Bool := match o with
  | some (.val u) => decide (u = v)
  | _ => false
theorem fclB_ok {o : Option PySem.W.CFound} {v : Value} (h : fclB o v = true) : o = some (.val v) := by
  unfold fclB at h
  split at h
  · rw [of_decide_eq_true h]
  · cases h
theorem funK_of {x qual : Str} {st : Stmt} {f : Addr} {fd : FuncData} {kws : List (Str × V)} (F : FunD K x qual (defArgs st) (defBody st) (defScope st) [] kws f fd) : L2.Fun K x qual st f fd := by
  obtain ⟨oc, od, dV, kV, doc, pm, an, cdv, ct, osl, e, l, c, hd, _⟩ := F.ex
  rcases hd with ⟨_, e2⟩ | ⟨e2, _⟩
  · subst e2
    exact ⟨⟨oc, od, kV, doc, pm, an, cdv, ct, osl, e, l, c⟩, F.kp⟩
  · exact absurd rfl e2
/-- an exception class with an own __init__, as one Bool -/
def oexB (K : PySem.W.Frag) (C : Addr) : Bool := match K.lookup C with
  | some ⟨.type t, _, .cls cd, sl⟩ => decide (t = "type") && ((match cd.mro with
    | .ref D :: bm => decide (D = C) && PySem.HandSPX.refsVE bm
    | _ => false) && (cd.hasDict && (!cd.hasDel && (match sl.toList with
    | [_, _, _, _, some (.builtin s), _] => decide (s = "ValueError.__new__")
    | _ => false))))
  | _ => false
theorem oexB_ok {C : Addr} (h : oexB K C = true) : ∃ nm q N bs bm sn sub ab col dd k0 k1 k2 k3 k5, K.lookup C = some (excClassObj nm q C N bs bm true sn sub ab col dd k0 k1 k2 k3 k5 "ValueError.__new__") ∧ PySem.HandSPX.refsVE bm = true := by
  unfold oexB at h
  split at h
  · rename_i t dd cd sl hl
    obtain ⟨h1, h⟩ := He.ba h
    obtain ⟨h2, h⟩ := He.ba h
    obtain ⟨h3, h⟩ := He.ba h
    obtain ⟨h4, h5⟩ := He.ba h
    obtain rfl : t = "type" := of_decide_eq_true h1
    obtain ⟨nm, bs, mro, ns, q, hd, sn, sub, ab, col, hdel⟩ := cd
    dsimp only at h2 h3 h4
    cases mro with
    | nil => cases h2
    | cons v bm =>
      cases v with
      | ref D =>
        obtain ⟨h6, h7⟩ := He.ba h2
        obtain rfl : D = C := of_decide_eq_true h6
        subst h3
        have h4 : hdel = false := by cases hdel <;> first | rfl | cases h4
        subst h4
        split at h5
        · rename_i k0 k1 k2 k3 s k5 hs
          obtain rfl : s = "ValueError.__new__" := of_decide_eq_true h5
          refine ⟨nm, q, ns, bs, bm, sn, sub, ab, col, dd, k0, k1, k2, k3, k5, ?_, h7⟩
          rw [hl]
          have es : sl = #[k0, k1, k2, k3, some (.builtin "ValueError.__new__"), k5] := by
            cases sl
            exact congrArg Array.mk hs
          rw [es]
        · cases h5
      | _ => cases h2
  · cases h
/-- what a module's name stands for -/
def gvK (K : PySem.W.Frag) (x : Str) : Value := match PySem.W.nsIn K mainGlobals x with
  | some (some v) => v
  | _ => .none
theorem walk_ofW {l : PySem.W.OpenLaw} {n k : Nat} {q : Program} {loose : List Str} {XP : (Str → Option Value) → Heap → Prop} {YP : World → Heap → Prop} {d : DefRec} {CX : World → CXT} {x : Str}
    (hn : l.most = some n) (hn2 : n ≤ sizeLine) (hdf : d.params.defaults = []) (hr : Room k callerA)
    (F : ∀ (w : World) (mg : Str → Option Value) (fa : Addr) (h : Heap), YP w h → h.Ns mainGlobals mg → mg d.name = some (.ref fa) →
      ∃ (K : PySem.W.Frag) (fd : FuncData) (sp : Sp), K.In h ∧ (∀ (s : Shared) (u : Value), BindsTo s fd ⟨[u], []⟩ [(x, u)]) ∧
        (∀ (H : Hp) (a : Addr) (ns : List Int), ns.length ≤ n → Only H → SqL K H a (ns.map V.int) → sp [.ref a] H (fun v _ => v = .bl true) fun _ _ _ => False) ∧
        ∀ base : Heap, K.In base → base.Ns mainGlobals mg → FnOk l.prog w K mg base (CX w) k fa fd [x] sp)
    (hCX : ∀ (w : World) (H : Hp) (s : Shared) (e : Value) (s' : Shared), CX w [] H s (fun _ _ _ => False) e s' → False) :
    PySem.W.WalkO q loose XP YP l.row.toRowW d [] (fun f vs => PySem.call f vs) := by
  refine Att.attach_call hn hdf fun w s₀ s₁ mg mb fa o pm cd doc a vs ns G Y ho hd hcd hmg hobj hints hlen hg => ?_
  obtain ⟨K, fd, sp, KX, hb, hsp, hF⟩ := F w mg fa _ Y G.T.g hmg
  exact law_call KX G.T.g G.T.b G.T.builtins G.T.nolimit hg hobj hints (Nat.le_trans hlen hn2) hr hF hb (fun H hO hS => hsp H a ns hlen hO hS) fun H e s' => hCX w H s₁ e s'
end
end Kit

namespace My
open PySem L2 Kit

def top (i : Nat) : Stmt := PySem.Challenge.pw_wornpages_k41_least_and_gap.main.body.getD i (.Pass ⟨0, 0, 0, 0⟩)
abbrev s_BlockFailed_init : Stmt := inClass (top 6) 0
abbrev N_BlockFailed_init : List Str := ["self", "block"]
theorem sc_BlockFailed_init : FnScope N_BlockFailed_init ["self", "block"] (defScope s_BlockFailed_init) := ⟨rfl, rfl, rfl, by decide +kernel, rfl, by decide +kernel, by decide +kernel⟩
abbrev s_NotClear_init : Stmt := inClass (top 7) 0
abbrev N_NotClear_init : List Str := ["self", "page"]
theorem sc_NotClear_init : FnScope N_NotClear_init ["self", "page"] (defScope s_NotClear_init) := ⟨rfl, rfl, rfl, by decide +kernel, rfl, by decide +kernel, by decide +kernel⟩
abbrev s_mark_of : Stmt := top 15
abbrev N_mark_of : List Str := ["stamp", "name"]
theorem sc_mark_of : FnScope N_mark_of ["stamp", "name"] (defScope s_mark_of) := ⟨rfl, rfl, rfl, by decide +kernel, rfl, by decide +kernel, by decide +kernel⟩
abbrev s_bits_of : Stmt := top 16
abbrev N_bits_of : List Str := ["sheets", "bits", "sheet"]
theorem sc_bits_of : FnScope N_bits_of ["sheets"] (defScope s_bits_of) := ⟨rfl, rfl, rfl, by decide +kernel, rfl, by decide +kernel, by decide +kernel⟩
abbrev s_Book_init : Stmt := inClass (top 18) 0
abbrev N_Book_init : List Str := ["self", "blocks", "pages"]
theorem sc_Book_init : FnScope N_Book_init ["self", "blocks", "pages"] (defScope s_Book_init) := ⟨rfl, rfl, rfl, by decide +kernel, rfl, by decide +kernel, by decide +kernel⟩
abbrev s_Book_mark : Stmt := inClass (top 18) 2
abbrev N_Book_mark : List Str := ["self", "name"]
theorem sc_Book_mark : FnScope N_Book_mark ["self", "name"] (defScope s_Book_mark) := ⟨rfl, rfl, rfl, by decide +kernel, rfl, by decide +kernel, by decide +kernel⟩
abbrev s_Book_note : Stmt := inClass (top 18) 3
abbrev N_Book_note : List Str := ["self", "page", "name", "block"]
theorem sc_Book_note : FnScope N_Book_note ["self", "page", "name"] (defScope s_Book_note) := ⟨rfl, rfl, rfl, by decide +kernel, rfl, by decide +kernel, by decide +kernel⟩
abbrev s_Book_forget : Stmt := inClass (top 18) 4
abbrev N_Book_forget : List Str := ["self", "name", "page"]
theorem sc_Book_forget : FnScope N_Book_forget ["self", "name"] (defScope s_Book_forget) := ⟨rfl, rfl, rfl, by decide +kernel, rfl, by decide +kernel, by decide +kernel⟩
abbrev s_Book_emptied : Stmt := inClass (top 18) 5
abbrev N_Book_emptied : List Str := ["self", "block"]
theorem sc_Book_emptied : FnScope N_Book_emptied ["self", "block"] (defScope s_Book_emptied) := ⟨rfl, rfl, rfl, by decide +kernel, rfl, by decide +kernel, by decide +kernel⟩
abbrev s_Book_live_pages : Stmt := inClass (top 18) 6
abbrev N_Book_live_pages : List Str := ["self", "block", "first", "found", "page"]
theorem sc_Book_live_pages : FnScope N_Book_live_pages ["self", "block"] (defScope s_Book_live_pages) := ⟨rfl, rfl, rfl, by decide +kernel, rfl, by decide +kernel, by decide +kernel⟩
abbrev s_Book_held : Stmt := inClass (top 18) 7
abbrev N_Book_held : List Str := ["self", "name"]
theorem sc_Book_held : FnScope N_Book_held ["self"] (defScope s_Book_held) := ⟨rfl, rfl, rfl, by decide +kernel, rfl, by decide +kernel, by decide +kernel⟩
abbrev s_Book_tell : Stmt := inClass (top 18) 8
abbrev N_Book_tell : List Str := ["self"]
theorem sc_Book_tell : FnScope N_Book_tell ["self"] (defScope s_Book_tell) := ⟨rfl, rfl, rfl, by decide +kernel, rfl, by decide +kernel, by decide +kernel⟩
abbrev s_is_whole : Stmt := top 20
abbrev N_is_whole : List Str := ["thing"]
theorem sc_is_whole : FnScope N_is_whole ["thing"] (defScope s_is_whole) := ⟨rfl, rfl, rfl, by decide +kernel, rfl, by decide +kernel, by decide +kernel⟩
abbrev s_is_within : Stmt := top 21
abbrev N_is_within : List Str := ["thing", "low", "high"]
theorem sc_is_within : FnScope N_is_within ["thing", "low", "high"] (defScope s_is_within) := ⟨rfl, rfl, rfl, by decide +kernel, rfl, by decide +kernel, by decide +kernel⟩
abbrev s_Plain_init : Stmt := inClass (top 23) 0
abbrev N_Plain_init : List Str := ["self", "chip", "terms"]
theorem sc_Plain_init : FnScope N_Plain_init ["self", "chip", "terms"] (defScope s_Plain_init) := ⟨rfl, rfl, rfl, by decide +kernel, rfl, by decide +kernel, by decide +kernel⟩
abbrev s_Plain_good : Stmt := inClass (top 23) 1
abbrev N_Plain_good : List Str := ["self", "block"]
theorem sc_Plain_good : FnScope N_Plain_good ["self"] (defScope s_Plain_good) := ⟨rfl, rfl, rfl, by decide +kernel, rfl, by decide +kernel, by decide +kernel⟩
abbrev s_Plain_free : Stmt := inClass (top 23) 2
abbrev N_Plain_free : List Str := ["self", "found", "block", "times"]
theorem sc_Plain_free : FnScope N_Plain_free ["self"] (defScope s_Plain_free) := ⟨rfl, rfl, rfl, by decide +kernel, rfl, by decide +kernel, by decide +kernel⟩
abbrev s_Plain_part : Stmt := inClass (top 23) 3
abbrev N_Plain_part : List Str := ["self", "block"]
theorem sc_Plain_part : FnScope N_Plain_part ["self"] (defScope s_Plain_part) := ⟨rfl, rfl, rfl, by decide +kernel, rfl, by decide +kernel, by decide +kernel⟩
abbrev s_Plain_spot : Stmt := inClass (top 23) 4
abbrev N_Plain_spot : List Str := ["self", "block", "some"]
theorem sc_Plain_spot : FnScope N_Plain_spot ["self"] (defScope s_Plain_spot) := ⟨rfl, rfl, rfl, by decide +kernel, rfl, by decide +kernel, by decide +kernel⟩
abbrev s_Plain_reserve : Stmt := inClass (top 23) 5
abbrev N_Plain_reserve : List Str := ["self"]
theorem sc_Plain_reserve : FnScope N_Plain_reserve ["self"] (defScope s_Plain_reserve) := ⟨rfl, rfl, rfl, by decide +kernel, rfl, by decide +kernel, by decide +kernel⟩
abbrev s_Plain_ready : Stmt := inClass (top 23) 6
abbrev N_Plain_ready : List Str := ["self", "many"]
theorem sc_Plain_ready : FnScope N_Plain_ready ["self"] (defScope s_Plain_ready) := ⟨rfl, rfl, rfl, by decide +kernel, rfl, by decide +kernel, by decide +kernel⟩
abbrev s_Plain_make_ready : Stmt := inClass (top 23) 7
abbrev N_Plain_make_ready : List Str := ["self"]
theorem sc_Plain_make_ready : FnScope N_Plain_make_ready ["self"] (defScope s_Plain_make_ready) := ⟨rfl, rfl, rfl, by decide +kernel, rfl, by decide +kernel, by decide +kernel⟩
abbrev s_Plain_set_down : Stmt := inClass (top 23) 8
abbrev N_Plain_set_down : List Str := ["self", "name", "value", "page"]
theorem sc_Plain_set_down : FnScope N_Plain_set_down ["self", "name", "value"] (defScope s_Plain_set_down) := ⟨rfl, rfl, rfl, by decide +kernel, rfl, by decide +kernel, by decide +kernel⟩
abbrev s_Plain_lay : Stmt := inClass (top 23) 9
abbrev N_Plain_lay : List Str := ["self", "name", "value"]
theorem sc_Plain_lay : FnScope N_Plain_lay ["self", "name", "value"] (defScope s_Plain_lay) := ⟨rfl, rfl, rfl, by decide +kernel, rfl, by decide +kernel, by decide +kernel⟩
abbrev s_Plain_need_sheet : Stmt := inClass (top 23) 10
abbrev N_Plain_need_sheet : List Str := ["self", "sheet"]
theorem sc_Plain_need_sheet : FnScope N_Plain_need_sheet ["self", "sheet"] (defScope s_Plain_need_sheet) := ⟨rfl, rfl, rfl, by decide +kernel, rfl, by decide +kernel, by decide +kernel⟩
abbrev s_Plain_write : Stmt := inClass (top 23) 11
abbrev N_Plain_write : List Str := ["self", "sheet", "value"]
theorem sc_Plain_write : FnScope N_Plain_write ["self", "sheet", "value"] (defScope s_Plain_write) := ⟨rfl, rfl, rfl, by decide +kernel, rfl, by decide +kernel, by decide +kernel⟩
abbrev s_Plain_read : Stmt := inClass (top 23) 13
abbrev N_Plain_read : List Str := ["self", "sheet"]
theorem sc_Plain_read : FnScope N_Plain_read ["self", "sheet"] (defScope s_Plain_read) := ⟨rfl, rfl, rfl, by decide +kernel, rfl, by decide +kernel, by decide +kernel⟩
abbrev s_Plain_held : Stmt := inClass (top 23) 14
abbrev N_Plain_held : List Str := ["self"]
theorem sc_Plain_held : FnScope N_Plain_held ["self"] (defScope s_Plain_held) := ⟨rfl, rfl, rfl, by decide +kernel, rfl, by decide +kernel, by decide +kernel⟩
abbrev s_Store_init : Stmt := inClass (top 25) 0
abbrev N_Store_init : List Str := ["self", "chip", "terms", "rule"]
theorem sc_Store_init : FnScope N_Store_init ["self", "chip", "terms", "rule"] (defScope s_Store_init) := ⟨rfl, rfl, rfl, by decide +kernel, rfl, by decide +kernel, by decide +kernel⟩
abbrev s_Store_reserve : Stmt := inClass (top 25) 2
abbrev N_Store_reserve : List Str := ["self"]
theorem sc_Store_reserve : FnScope N_Store_reserve ["self"] (defScope s_Store_reserve) := ⟨rfl, rfl, rfl, by decide +kernel, rfl, by decide +kernel, by decide +kernel⟩
abbrev s_Store_space : Stmt := inClass (top 25) 3
abbrev N_Store_space : List Str := ["self", "part"]
theorem sc_Store_space : FnScope N_Store_space ["self"] (defScope s_Store_space) := ⟨rfl, rfl, rfl, by decide +kernel, rfl, by decide +kernel, by decide +kernel⟩
abbrev s_Store_tally : Stmt := inClass (top 25) 4
abbrev N_Store_tally : List Str := ["self", "block"]
theorem sc_Store_tally : FnScope N_Store_tally ["self", "block"] (defScope s_Store_tally) := ⟨rfl, rfl, rfl, by decide +kernel, rfl, by decide +kernel, by decide +kernel⟩
abbrev s_Store_full_ones : Stmt := inClass (top 25) 5
abbrev N_Store_full_ones : List Str := ["self", "space", "found", "block"]
theorem sc_Store_full_ones : FnScope N_Store_full_ones ["self"] (defScope s_Store_full_ones) := ⟨rfl, rfl, rfl, by decide +kernel, rfl, by decide +kernel, by decide +kernel⟩
abbrev s_Store_options : Stmt := inClass (top 25) 6
abbrev N_Store_options : List Str := ["self", "tally"]
theorem sc_Store_options : FnScope N_Store_options ["self"] (defScope s_Store_options) := ⟨rfl, rfl, rfl, by decide +kernel, rfl, by decide +kernel, by decide +kernel⟩
abbrev s_Store_otherwise : Stmt := inClass (top 25) 7
abbrev N_Store_otherwise : List Str := ["self"]
theorem sc_Store_otherwise : FnScope N_Store_otherwise ["self"] (defScope s_Store_otherwise) := ⟨rfl, rfl, rfl, by decide +kernel, rfl, by decide +kernel, by decide +kernel⟩
abbrev s_Store_choice : Stmt := inClass (top 25) 8
abbrev N_Store_choice : List Str := ["self", "some"]
theorem sc_Store_choice : FnScope N_Store_choice ["self"] (defScope s_Store_choice) := ⟨rfl, rfl, rfl, by decide +kernel, rfl, by decide +kernel, by decide +kernel⟩
abbrev s_Store_value_for : Stmt := inClass (top 25) 9
abbrev N_Store_value_for : List Str := ["self", "page", "name"]
theorem sc_Store_value_for : FnScope N_Store_value_for ["self", "page", "name"] (defScope s_Store_value_for) := ⟨rfl, rfl, rfl, by decide +kernel, rfl, by decide +kernel, by decide +kernel⟩
abbrev s_Store_moved : Stmt := inClass (top 25) 10
abbrev N_Store_moved : List Str := ["self", "block", "found", "page", "name"]
theorem sc_Store_moved : FnScope N_Store_moved ["self", "block"] (defScope s_Store_moved) := ⟨rfl, rfl, rfl, by decide +kernel, rfl, by decide +kernel, by decide +kernel⟩
abbrev s_Store_wiped : Stmt := inClass (top 25) 11
abbrev N_Store_wiped : List Str := ["self", "block"]
theorem sc_Store_wiped : FnScope N_Store_wiped ["self", "block"] (defScope s_Store_wiped) := ⟨rfl, rfl, rfl, by decide +kernel, rfl, by decide +kernel, by decide +kernel⟩
abbrev s_Store_make_room : Stmt := inClass (top 25) 12
abbrev N_Store_make_room : List Str := ["self", "some", "why", "block", "moves", "well"]
theorem sc_Store_make_room : FnScope N_Store_make_room ["self"] (defScope s_Store_make_room) := ⟨rfl, rfl, rfl, by decide +kernel, rfl, by decide +kernel, by decide +kernel⟩
abbrev s_Store_make_ready : Stmt := inClass (top 25) 13
abbrev N_Store_make_ready : List Str := ["self"]
theorem sc_Store_make_ready : FnScope N_Store_make_ready ["self"] (defScope s_Store_make_ready) := ⟨rfl, rfl, rfl, by decide +kernel, rfl, by decide +kernel, by decide +kernel⟩
abbrev s_blocks_taken : Stmt := top 27
abbrev N_blocks_taken : List Str := ["moves", "pages", "found", "move", "block"]
theorem sc_blocks_taken : FnScope N_blocks_taken ["moves", "pages"] (defScope s_blocks_taken) := ⟨rfl, rfl, rfl, by decide +kernel, rfl, by decide +kernel, by decide +kernel⟩
abbrev s_Even_clearings_of : Stmt := inClass (top 28) 0
abbrev N_Even_clearings_of : List Str := ["self", "block"]
theorem sc_Even_clearings_of : FnScope N_Even_clearings_of ["self"] (defScope s_Even_clearings_of) := ⟨rfl, rfl, rfl, by decide +kernel, rfl, by decide +kernel, by decide +kernel⟩
abbrev s_Even_least : Stmt := inClass (top 28) 1
abbrev N_Even_least : List Str := ["self"]
theorem sc_Even_least : FnScope N_Even_least ["self"] (defScope s_Even_least) := ⟨rfl, rfl, rfl, by decide +kernel, rfl, by decide +kernel, by decide +kernel⟩
abbrev s_Even_gap : Stmt := inClass (top 28) 2
abbrev N_Even_gap : List Str := ["self", "counts"]
theorem sc_Even_gap : FnScope N_Even_gap ["self"] (defScope s_Even_gap) := ⟨rfl, rfl, rfl, by decide +kernel, rfl, by decide +kernel, by decide +kernel⟩
abbrev s_Even_spared : Stmt := inClass (top 28) 3
abbrev N_Even_spared : List Str := ["self", "bound", "tally"]
theorem sc_Even_spared : FnScope N_Even_spared ["self"] (defScope s_Even_spared) := ⟨rfl, rfl, rfl, by decide +kernel, rfl, by decide +kernel, by decide +kernel⟩
abbrev s_Even_options : Stmt := inClass (top 28) 4
abbrev N_Even_options : List Str := ["self", "tally"]
theorem sc_Even_options : FnScope N_Even_options ["self"] (defScope s_Even_options) := ⟨rfl, rfl, rfl, by decide +kernel, rfl, by decide +kernel, by decide +kernel⟩
abbrev s_Even_otherwise : Stmt := inClass (top 28) 5
abbrev N_Even_otherwise : List Str := ["self", "some", "best", "tally"]
theorem sc_Even_otherwise : FnScope N_Even_otherwise ["self"] (defScope s_Even_otherwise) := ⟨rfl, rfl, rfl, by decide +kernel, rfl, by decide +kernel, by decide +kernel⟩
abbrev s_Even_changes : Stmt := inClass (top 28) 6
abbrev N_Even_changes : List Str := ["self", "paper"]
theorem sc_Even_changes : FnScope N_Even_changes ["self"] (defScope s_Even_changes) := ⟨rfl, rfl, rfl, by decide +kernel, rfl, by decide +kernel, by decide +kernel⟩
abbrev s_endurance : Stmt := top 32
abbrev N_endurance : List Str := ["blocks", "ills", "found", "block", "good"]
theorem sc_endurance : FnScope N_endurance ["blocks", "ills"] (defScope s_endurance) := ⟨rfl, rfl, rfl, by decide +kernel, rfl, by decide +kernel, by decide +kernel⟩
abbrev s_Chip_init : Stmt := inClass (top 33) 0
abbrev N_Chip_init : List Str := ["self", "blocks", "pages", "most", "ills"]
abbrev dfl_Chip_init : List V := [V.int (1000000), V.non]
theorem sc_Chip_init : FnScope N_Chip_init ["self", "blocks", "pages", "most", "ills"] (defScope s_Chip_init) := ⟨rfl, rfl, rfl, by decide +kernel, rfl, by decide +kernel, by decide +kernel⟩
abbrev s_Chip_need_page : Stmt := inClass (top 33) 1
abbrev N_Chip_need_page : List Str := ["self", "page"]
theorem sc_Chip_need_page : FnScope N_Chip_need_page ["self", "page"] (defScope s_Chip_need_page) := ⟨rfl, rfl, rfl, by decide +kernel, rfl, by decide +kernel, by decide +kernel⟩
abbrev s_Chip_need_block : Stmt := inClass (top 33) 2
abbrev N_Chip_need_block : List Str := ["self", "block"]
theorem sc_Chip_need_block : FnScope N_Chip_need_block ["self", "block"] (defScope s_Chip_need_block) := ⟨rfl, rfl, rfl, by decide +kernel, rfl, by decide +kernel, by decide +kernel⟩
abbrev s_Chip_need_power : Stmt := inClass (top 33) 3
abbrev N_Chip_need_power : List Str := ["self"]
theorem sc_Chip_need_power : FnScope N_Chip_need_power ["self"] (defScope s_Chip_need_power) := ⟨rfl, rfl, rfl, by decide +kernel, rfl, by decide +kernel, by decide +kernel⟩
abbrev s_Chip_need_good : Stmt := inClass (top 33) 4
abbrev N_Chip_need_good : List Str := ["self", "block"]
theorem sc_Chip_need_good : FnScope N_Chip_need_good ["self", "block"] (defScope s_Chip_need_good) := ⟨rfl, rfl, rfl, by decide +kernel, rfl, by decide +kernel, by decide +kernel⟩
abbrev s_Chip_goes_well : Stmt := inClass (top 33) 5
abbrev N_Chip_goes_well : List Str := ["self", "block", "worn", "well"]
theorem sc_Chip_goes_well : FnScope N_Chip_goes_well ["self", "block", "worn"] (defScope s_Chip_goes_well) := ⟨rfl, rfl, rfl, by decide +kernel, rfl, by decide +kernel, by decide +kernel⟩
abbrev s_Chip_put : Stmt := inClass (top 33) 6
abbrev N_Chip_put : List Str := ["self", "page", "stuff", "block", "well"]
theorem sc_Chip_put : FnScope N_Chip_put ["self", "page", "stuff"] (defScope s_Chip_put) := ⟨rfl, rfl, rfl, by decide +kernel, rfl, by decide +kernel, by decide +kernel⟩
abbrev s_Chip_wipe : Stmt := inClass (top 33) 7
abbrev N_Chip_wipe : List Str := ["self", "block", "well", "place"]
theorem sc_Chip_wipe : FnScope N_Chip_wipe ["self", "block"] (defScope s_Chip_wipe) := ⟨rfl, rfl, rfl, by decide +kernel, rfl, by decide +kernel, by decide +kernel⟩
abbrev s_Chip_read : Stmt := inClass (top 33) 8
abbrev N_Chip_read : List Str := ["self", "page"]
theorem sc_Chip_read : FnScope N_Chip_read ["self", "page"] (defScope s_Chip_read) := ⟨rfl, rfl, rfl, by decide +kernel, rfl, by decide +kernel, by decide +kernel⟩
abbrev s_Chip_is_dark : Stmt := inClass (top 33) 11
abbrev N_Chip_is_dark : List Str := ["self"]
theorem sc_Chip_is_dark : FnScope N_Chip_is_dark ["self"] (defScope s_Chip_is_dark) := ⟨rfl, rfl, rfl, by decide +kernel, rfl, by decide +kernel, by decide +kernel⟩
abbrev s_Chip_cleared : Stmt := inClass (top 33) 12
abbrev N_Chip_cleared : List Str := ["self", "block"]
theorem sc_Chip_cleared : FnScope N_Chip_cleared ["self", "block"] (defScope s_Chip_cleared) := ⟨rfl, rfl, rfl, by decide +kernel, rfl, by decide +kernel, by decide +kernel⟩
abbrev s_Chip_failed : Stmt := inClass (top 33) 13
abbrev N_Chip_failed : List Str := ["self", "block"]
theorem sc_Chip_failed : FnScope N_Chip_failed ["self", "block"] (defScope s_Chip_failed) := ⟨rfl, rfl, rfl, by decide +kernel, rfl, by decide +kernel, by decide +kernel⟩
abbrev s_Chip_deeds : Stmt := inClass (top 33) 14
abbrev N_Chip_deeds : List Str := ["self"]
theorem sc_Chip_deeds : FnScope N_Chip_deeds ["self"] (defScope s_Chip_deeds) := ⟨rfl, rfl, rfl, by decide +kernel, rfl, by decide +kernel, by decide +kernel⟩
abbrev s_Rule_goes_ahead : Stmt := inClass (top 35) 0
abbrev N_Rule_goes_ahead : List Str := ["self", "one", "other", "pages", "now"]
theorem sc_Rule_goes_ahead : FnScope N_Rule_goes_ahead ["self", "one", "other", "pages", "now"] (defScope s_Rule_goes_ahead) := ⟨rfl, rfl, rfl, by decide +kernel, rfl, by decide +kernel, by decide +kernel⟩
abbrev s_Rule_choose : Stmt := inClass (top 35) 1
abbrev N_Rule_choose : List Str := ["self", "tallies", "pages", "now", "best", "tally"]
theorem sc_Rule_choose : FnScope N_Rule_choose ["self", "tallies", "pages", "now"] (defScope s_Rule_choose) := ⟨rfl, rfl, rfl, by decide +kernel, rfl, by decide +kernel, by decide +kernel⟩
abbrev s_Terms_init : Stmt := inClass (top 37) 0
abbrev N_Terms_init : List Str := ["self", "blocks", "pages", "sheets", "share", "ill", "spread"]
abbrev dfl_Terms_init : List V := [V.int (0), V.int (1000000)]
theorem sc_Terms_init : FnScope N_Terms_init ["self", "blocks", "pages", "sheets", "share", "ill", "spread"] (defScope s_Terms_init) := ⟨rfl, rfl, rfl, by decide +kernel, rfl, by decide +kernel, by decide +kernel⟩
abbrev s_Terms_closed : Stmt := inClass (top 37) 1
abbrev N_Terms_closed : List Str := ["self"]
theorem sc_Terms_closed : FnScope N_Terms_closed ["self"] (defScope s_Terms_closed) := ⟨rfl, rfl, rfl, by decide +kernel, rfl, by decide +kernel, by decide +kernel⟩
abbrev s__law_cell_at : Stmt := top 39
abbrev N__law_cell_at : List Str := ["_law_script", "_law_k"]
theorem sc__law_cell_at : FnScope N__law_cell_at ["_law_script", "_law_k"] (defScope s__law_cell_at) := ⟨rfl, rfl, rfl, by decide +kernel, rfl, by decide +kernel, by decide +kernel⟩
abbrev s__law_whole : Stmt := top 40
abbrev N__law_whole : List Str := ["_law_found"]
theorem sc__law_whole : FnScope N__law_whole ["_law_found"] (defScope s__law_whole) := ⟨rfl, rfl, rfl, by decide +kernel, rfl, by decide +kernel, by decide +kernel⟩
abbrev s__law_mix : Stmt := top 41
abbrev N__law_mix : List Str := ["_law_cell", "_law_k", "_law_m"]
theorem sc__law_mix : FnScope N__law_mix ["_law_cell", "_law_k"] (defScope s__law_mix) := ⟨rfl, rfl, rfl, by decide +kernel, rfl, by decide +kernel, by decide +kernel⟩
abbrev s__law_ills : Stmt := top 42
abbrev N__law_ills : List Str := ["_law_script", "_law_blocks", "_law_way", "_law_found", "_law_block"]
theorem sc__law_ills : FnScope N__law_ills ["_law_script", "_law_blocks"] (defScope s__law_ills) := ⟨rfl, rfl, rfl, by decide +kernel, rfl, by decide +kernel, by decide +kernel⟩
abbrev s__law_wiped : Stmt := top 43
abbrev N__law_wiped : List Str := ["_law_chip", "_law_block", "_law_well"]
theorem sc__law_wiped : FnScope N__law_wiped ["_law_chip", "_law_block"] (defScope s__law_wiped) := ⟨rfl, rfl, rfl, by decide +kernel, rfl, by decide +kernel, by decide +kernel⟩
abbrev s__law_due : Stmt := top 44
abbrev N__law_due : List Str := ["_law_counts", "_law_broken", "_law_some", "_law_block"]
theorem sc__law_due : FnScope N__law_due ["_law_counts", "_law_broken"] (defScope s__law_due) := ⟨rfl, rfl, rfl, by decide +kernel, rfl, by decide +kernel, by decide +kernel⟩
abbrev s__law_right : Stmt := top 45
abbrev N__law_right : List Str := ["_law_store", "_law_counts", "_law_broken", "_law_found"]
theorem sc__law_right : FnScope N__law_right ["_law_store", "_law_counts", "_law_broken"] (defScope s__law_right) := ⟨rfl, rfl, rfl, by decide +kernel, rfl, by decide +kernel, by decide +kernel⟩
abbrev s_law : Stmt := top 46
abbrev N_law : List Str := ["_law_script", "_law_blocks", "_law_pages", "_law_chip", "_law_store", "_law_counts", "_law_broken", "_law_k", "_law_block", "_law_turn"]
theorem sc_law : FnScope N_law ["_law_script"] (defScope s_law) := ⟨rfl, rfl, rfl, by decide +kernel, rfl, by decide +kernel, by decide +kernel⟩
/-! steps of a reading: "s" one step, "go" as far as it goes -/
local macro_rules | `(tactic| walk_at "sq") => `(tactic| first | assumption | exact SqL.of (by assumption) | exact SqT.of (by assumption) | (refine' Same.seq ?hsm ?hsq; (case hsm => assumption); (case hsq => walk_at "sq")) | (refine' SqL.of ?hhq; (case hhq => walk_at "hp")) | (refine SqT.of ?_; walk_at "hp"))
local macro_rules | `(tactic| walk_at "hp") => `(tactic| first | assumption | (refine' (show Same _ _ by assumption) _ _ ?hhp; (case hhp => walk_at "hp")))
local macro_rules | `(tactic| walk_at "nin") => `(tactic| first | exact nin_of (by assumption) | exact nin_of (Ne.symm (by assumption)))
local macro_rules | `(tactic| walk_at "off") => `(tactic| first | exact Off.refl | exact Off.of (by assumption) | exact Off.sub (by assumption) (by intro b hb; rw [List.mem_singleton] at hb; subst hb; simp) | (refine Off.trans ?_ (Off.of (by assumption)); walk_at "off") | (refine Off.trans ?_ (Off.sub (by assumption) (by intro b hb; rw [List.mem_singleton] at hb; subst hb; simp)); walk_at "off") | (refine Off.trans ?_ (by assumption); walk_at "off"))
local macro_rules | `(tactic| walk_at "hp") => `(tactic| first | assumption | (refine' Off.at ?hO1 ?hO3 ?hO2; (case hO1 => assumption); (case hO2 => walk_at "nin"); (case hO3 => walk_at "hp")) | (refine' Off.lst ?hO1 ?hO2 ?hO3; (case hO1 => assumption); (case hO2 => assumption); (case hO3 => walk_at "hp")) | (refine' (show Same _ _ by assumption) _ _ ?hhp; (case hhp => walk_at "hp")))
local macro_rules | `(tactic| walk_at "nn") => `(tactic| (refine' ne_of_none ?nna ?nnb; (case nnb => assumption); (case nna => walk_at "hp")))
local macro_rules | `(tactic| walk_at "side") => `(tactic| first | assumption | decide | omega | exact ⟨by decide, by decide, by decide⟩ | exact ⟨by decide, by decide +kernel⟩ | exact Or.inr ⟨by decide, by decide⟩ | exact ⟨by omega, by omega⟩ | exact Or.inl ⟨by omega, by omega⟩ | exact Or.inr ⟨by omega, by omega⟩ | exact cdivW (by omega) (by omega) | (simp only [List.length_cons, List.length_nil, List.length_append, Nat.zero_add, Nat.reduceAdd, Nat.reduceMul]; decide) | (simp only [List.length_append, List.length_cons, List.length_nil, List.length_map]; omega) | (simp; done))
local macro_rules | `(tactic| walk_at "isi") => `(tactic| first
  | with_reducible refine x_isiNon_int ?_
  | with_reducible refine x_isiNon_bool ?_
  | with_reducible refine x_isiNon_str ?_
  | with_reducible refine x_isiNon_list ?_
  | with_reducible refine x_isiNon_tuple ?_
  | with_reducible refine x_isiNon_dict ?_
  | with_reducible refine x_isiBl_int ?_
  | with_reducible refine x_isiBl_bool ?_
  | with_reducible refine x_isiBl_str ?_
  | with_reducible refine x_isiBl_list ?_
  | with_reducible refine x_isiBl_tuple ?_
  | with_reducible refine x_isiBl_dict ?_
  | with_reducible refine x_isiInt_int ?_
  | with_reducible refine x_isiInt_bool ?_
  | with_reducible refine x_isiInt_str ?_
  | with_reducible refine x_isiInt_list ?_
  | with_reducible refine x_isiInt_tuple ?_
  | with_reducible refine x_isiInt_dict ?_
  | with_reducible refine x_isiStr_int ?_
  | with_reducible refine x_isiStr_bool ?_
  | with_reducible refine x_isiStr_str ?_
  | with_reducible refine x_isiStr_list ?_
  | with_reducible refine x_isiStr_tuple ?_
  | with_reducible refine x_isiStr_dict ?_
  | with_reducible refine x_isiLst_int (by assumption) ?_
  | with_reducible refine x_isiLst_bool (by assumption) ?_
  | with_reducible refine x_isiLst_str (by assumption) ?_
  | with_reducible refine x_isiLst_list (by assumption) ?_
  | with_reducible refine x_isiLst_tuple (by assumption) ?_
  | with_reducible refine x_isiLst_dict (by assumption) ?_
  | with_reducible refine x_isiTup_int (by assumption) ?_
  | with_reducible refine x_isiTup_bool (by assumption) ?_
  | with_reducible refine x_isiTup_str (by assumption) ?_
  | with_reducible refine x_isiTup_list (by assumption) ?_
  | with_reducible refine x_isiTup_tuple (by assumption) ?_
  | with_reducible refine x_isiTup_dict (by assumption) ?_
  | with_reducible refine x_isiDk_int (by assumption) ?_
  | with_reducible refine x_isiDk_bool (by assumption) ?_
  | with_reducible refine x_isiDk_str (by assumption) ?_
  | with_reducible refine x_isiDk_list (by assumption) ?_
  | with_reducible refine x_isiDk_tuple (by assumption) ?_
  | with_reducible refine x_isiDk_dict (by assumption) ?_)
local macro_rules | `(tactic| walk_at "s") => `(tactic| first
  | walk_at "u"
  | with_reducible refine x_seqA ?_
  | with_reducible refine x_seqD ?_
  | with_reducible refine x_seqF ?_
  | with_reducible refine x_seqFA ?_
  | with_reducible refine x_seqAug ?_
  | with_reducible refine x_asg ?_
  | ((with_reducible refine' x_var ?hv ?_); case hv => exact rfl)
  | with_reducible refine x_c ?_
  | with_reducible refine x_op ?_
  | with_reducible refine x_cb ?_
  | with_reducible refine x_cons ?_
  | with_reducible refine x_nil ?_
  | ((with_reducible refine x_gname ?_); (try dsimp only [List.set]))
  | with_reducible refine x_if ?_
  | with_reducible refine x_ret ?_
  | with_reducible refine x_test ?_
  | ((with_reducible refine x_isbl ?_); try dsimp only)
  | ((with_reducible refine x_truBl ?_); try dsimp only)
  | with_reducible refine x_callS ?_
  | with_reducible refine x_iteT ?_
  | with_reducible refine x_iteF ?_
  | with_reducible refine x_iteN ?_
  | with_reducible refine x_I0 ?_
  | with_reducible refine x_addI ?_
  | with_reducible refine x_lt ?_
  | ((with_reducible refine x_pow ?_ ?hs); (try (case hs => walk_at "side")); (try simp only [Int.reduceToNat]))
  | ((with_reducible refine x_I ?_ ?hs); (try (case hs => walk_at "side")))
  | ((with_reducible refine x_mulI ?_ ?hs); (case hs => walk_at "side"))
  | ((with_reducible refine x_mulU ?_ ?hs); (try (case hs => walk_at "side")))
  | with_reducible refine x_eqI ?_
  | with_reducible refine x_neI ?_
  | with_reducible refine x_eqB ?_
  | with_reducible refine x_neB ?_
  | with_reducible refine x_eqS ?_
  | with_reducible refine x_andT ?_
  | with_reducible refine x_orT ?_
  | with_reducible refine x_notT ?_
  | with_reducible refine x_and ?_
  | with_reducible refine x_or ?_
  | with_reducible refine x_not ?_
  | with_reducible refine x_chain ?_
  | with_reducible refine x_tB ?_
  | with_reducible refine x_tup ?_
  | with_reducible refine x_lst ?_
  | with_reducible refine x_un ?_
  | ((with_reducible refine x_nwL ?_ ?hs); (try (case hs => walk_at "side")); intro p H1 hp hs hn)
  | ((with_reducible refine x_nwT ?_ ?hs); (try (case hs => walk_at "side")); intro p H1 hp hs hn)
  | ((with_reducible refine' x_addL ?h1 ?h2 ?_ ?hs); (case h1 => walk_at "hp"); (case h2 => walk_at "hp"); (try (case hs => walk_at "side")); intro p H1 hp hs hn)
  | ((with_reducible refine' x_rep1 ?h1 ?_ ?h0); (case h1 => walk_at "hp"); (try (case h0 => walk_at "side")); intro p H1 hp hs hn)
  | ((with_reducible refine' x_rep ?h1 ?_ ?h2 ?h0 ?hs); (case h1 => walk_at "hp"); (try (case h2 => walk_at "side")); (try (case h0 => walk_at "side")); (try (case hs => walk_at "side")); intro p H1 hp hs hn)
  | ((with_reducible refine' x_addS ?_ ?hs); (try (case hs => walk_at "side")))
  | with_reducible refine x_U ?_
  | with_reducible refine x_drop ?_
  | with_reducible refine x_retN ?_
  | ((with_reducible refine x_next ?_); try dsimp only)
  | with_reducible refine x_ifExp ?_
  | ((with_reducible refine' x_lenM ?hq ?_); case hq => walk_at "sq")
  | ((with_reducible refine' x_lenL ?hq ?_); case hq => walk_at "sq")
  | ((with_reducible refine' x_lenD ?hq ?_); case hq => walk_at "hp")
  | ((with_reducible refine' x_lenT ?hq ?_); case hq => walk_at "sq")
  | ((with_reducible refine' x_ixH ?hq ?_); (case hq => walk_at "sq"))
  | ((with_reducible refine' x_ixS ?hq ?ha ?_); (case hq => walk_at "sq"); (case ha => first | assumption | exact rfl))
  | ((with_reducible refine' x_ixI ?hq ?_ ?h0 ?h1); (case hq => walk_at "sq"); (try (case h0 => walk_at "side")); (try (case h1 => walk_at "side")))
  | ((with_reducible refine' x_ixB ?hq ?_ ?h0 ?h1); (case hq => walk_at "sq"); (try (case h0 => walk_at "side")); (try (case h1 => walk_at "side")))
  | ((with_reducible refine' x_ixL ?hq ?_ ?h0 ?h1); (case hq => walk_at "sq"); (try (case h0 => walk_at "side")); (try (case h1 => walk_at "side")))
  | ((with_reducible refine' x_ixT ?hq ?ha ?_); (case hq => walk_at "sq"); case ha => exact rfl)
  | walk_at "isi"
  | with_reducible refine x_bm ?_
  | ((with_reducible refine' x_bmL ?hq ?_); (case hq => walk_at "sq"))
  | with_reducible refine x_bm0 ?_
  | ((with_reducible refine' x_bm0L ?hq ?_); (case hq => walk_at "sq"))
  | ((with_reducible refine' x_append ?ho ?_ ?hl); (case ho => walk_at "hp"); (try (case hl => walk_at "side")))
  | ((with_reducible refine' x_clear ?ho ?_); (case ho => walk_at "hp"))
  | with_reducible refine x_slice ?_
  | with_reducible refine x_noPart ?_
  | with_reducible refine x_part ?_
  | with_reducible refine x_ptK ?_
  | ((with_reducible refine' x_slL ?hq ?_); (case hq => walk_at "sq"); intro p H1 hp hs hn)
  | with_reducible refine x_forL ?_
  | with_reducible refine x_forT ?_
  | with_reducible refine x_forS ?_
  | with_reducible refine x_forR1 ?_
  | with_reducible refine x_forR2 ?_
  | with_reducible refine x_forEn ?_
  | with_reducible refine x_forZ ?_
  | with_reducible refine x_lcL ?_
  | with_reducible refine x_lcR1 ?_
  | with_reducible refine x_lcR2 ?_
  | with_reducible refine x_yes ?_
  | ((with_reducible refine x_mk0 ?_); intro p dp H1 hp hdp hne hs hn hd)
  | with_reducible refine x_mkS ?_
  | ((with_reducible refine x_mkK ?_); intro p dp H1 hp hdp hne hs hn hd)
  | with_reducible refine x_methD ?_
  | with_reducible refine x_fldAug ?_
  | with_reducible refine x_dget ?_
  | ((with_reducible refine' x_dgS ?ho ?hv ?_); (case ho => walk_at "hp"); (case hv => exact rfl); (try dsimp only))
  | with_reducible refine x_dput ?_
  | with_reducible refine x_seqDP ?_
  | with_reducible refine x_prN ?_
  | with_reducible refine x_prC ?_
  | ((with_reducible refine x_disp ?_); intro p H1 hp hs hn)
  | ((with_reducible refine x_dnew ?_); intro p H1 hp hs hn)
  | with_reducible refine x_din ?_
  | with_reducible refine x_dnin ?_
  | ((with_reducible refine' x_dninI ?ho ?_); (case ho => walk_at "hp"))
  | with_reducible refine x_dget1 ?_
  | with_reducible refine x_dsetd ?_
  | with_reducible refine x_dpop1 ?_
  | with_reducible refine x_dpop2 ?_
  | ((with_reducible refine' x_dinI ?ho ?_); (case ho => walk_at "hp"))
  | ((with_reducible refine' x_dg1K ?ho ?_); (case ho => walk_at "hp"))
  | ((with_reducible refine' x_dg1I ?ho ?_); (case ho => walk_at "hp"))
  | ((with_reducible refine' x_dsK ?ho ?_); (case ho => walk_at "hp"))
  | ((with_reducible refine' x_dpp1K ?ho ?_); (case ho => walk_at "hp"))
  | ((with_reducible refine' x_dpp2K ?ho ?_); (case ho => walk_at "hp"))
  | with_reducible refine x_augS ?_
  | with_reducible refine x_seqAS ?_
  | with_reducible refine x_rSub ?_
  | ((with_reducible refine' x_getI ?hq ?_ ?h0 ?h1); (case hq => walk_at "sq"); (try (case h0 => walk_at "side")); (try (case h1 => walk_at "side")))
  | ((with_reducible refine' x_getL ?hq ?_ ?h0 ?h1); (case hq => walk_at "sq"); (try (case h0 => walk_at "side")); (try (case h1 => walk_at "side")))
  | with_reducible refine x_gsub ?_
  | ((with_reducible refine' x_setL ?ho ?_ ?h0 ?h1); (case ho => walk_at "hp"); (try (case h0 => walk_at "side")); (try (case h1 => walk_at "side")); intro H1 hO hI; (try dsimp only))
  | ((with_reducible refine' x_sfN ?ho ?hf ?_ ?hc ?hn ?hl); (case ho => walk_at "hp"); (case hf => exact rfl); (case hc => walk_at "cls"); (case hn => walk_at "na"); (case hl => exact Nat.le_of_ble_eq_true rfl); intro H1 hO hI; (dsimp only [List.cons_append, List.nil_append] at hI); (try dsimp only))
  | ((with_reducible refine' x_fldK ?ho ?hf ?_ ?hc ?hn); (case ho => walk_at "hp"); (case hf => exact rfl); (case hc => walk_at "cls"); (case hn => walk_at "na"))
  | ((with_reducible refine' x_aug ?hv ?_); case hv => exact rfl)
  | ((with_reducible refine x_ipI ?_); (try dsimp only [List.set]))
  | with_reducible refine x_rAdd ?_
  | with_reducible refine x_isB ?_
  | with_reducible refine x_isNotB ?_
  | with_reducible refine x_isN ?_
  | with_reducible refine x_isNotN ?_
  | ((with_reducible refine' x_inI ?hq ?_); (case hq => walk_at "sq"))
  | ((with_reducible refine' x_notInI ?hq ?_); (case hq => walk_at "sq"))
  | ((with_reducible refine x_intB ?_); try dsimp only)
  | with_reducible refine x_intI ?_
  | with_reducible refine x_raise ?_
  | with_reducible refine x_seqR ?_
  | with_reducible refine x_mkE ?_
  | with_reducible refine x_try1 ?_
  | with_reducible refine x_seqT1 ?_
  | with_reducible refine x_tryA ?_
  | with_reducible refine x_seqTA ?_
  | with_reducible refine x_tryK ?_
  | with_reducible refine x_seqTK ?_
  | with_reducible refine x_tryM ?_
  | with_reducible refine x_seqTM ?_
  | with_reducible refine x_mix ?_
  | with_reducible refine x_seqMix ?_
  | with_reducible refine x_xf ?_
  | with_reducible refine x_mkO ?_
  | with_reducible refine x_vei ?_
  | with_reducible refine x_fld ?_
  | with_reducible refine x_sfld ?_
  | ((with_reducible refine' x_gtup2 ?hq ?_); (case hq => walk_at "sq"); (try dsimp only [List.set]))
  | with_reducible refine x_max2 ?_
  | with_reducible refine x_min2 ?_
  | ((with_reducible refine' x_list ?hq ?_); (case hq => walk_at "sq"); intro p H1 hp hs hn)
  | with_reducible refine x_listRev ?_
  | ((with_reducible refine' x_lrK ?hq ?_); (case hq => walk_at "sq"); intro p H1 hp hs hn)
  | ((with_reducible refine' x_tupL ?hq ?_); (case hq => walk_at "sq"); intro p H1 hp hs hn)
  | ((with_reducible refine' x_listD ?hq ?_); (case hq => walk_at "hp"); intro p H1 hp hs hn)
  | ((with_reducible refine x_shl ?_ ?hs); (try (case hs => walk_at "side")))
  | ((with_reducible refine x_str ?_ ?hs); (try (case hs => walk_at "side"))))
local macro_rules | `(tactic| walk_at "go") => `(tactic| repeat walk_at "s")
local macro_rules | `(tactic| walk_at "begin") => `(tactic| simp only [L2H.cxH, cxOf, L2.start, List.map, List.length_cons, List.length_nil, List.replicate, Nat.reduceAdd, Nat.reduceSub, List.cons_append, List.nil_append])
local macro_rules | `(tactic| walk_at "if") => `(tactic| ((with_reducible refine x_seq ?_); repeat walk_at "s"))

local macro_rules | `(tactic| walk_at "exv") => `(tactic| first | assumption | ((refine' ExV.mono ?exa ?exb); (case exa => assumption); (case exb => assumption)) | ((refine' ExV.off1 ?exo ?exx ?exn); (case exo => assumption); (case exx => assumption); (case exn => assumption)))
local macro_rules | `(tactic| walk_at "u") => `(tactic| first | ((with_reducible refine' x_isVC ?exv ?exe ?exk ?_); (case exv => walk_at "exv"); (case exe => assumption); (case exk => assumption)) | ((with_reducible refine' x_isVT ?exv ?exe ?exk ?_); (case exv => walk_at "exv"); (case exe => assumption); (case exk => assumption)))


--#LAWSPEC 9

structure Txt (K : PySem.W.Frag) (mg : Str → Option Value) where
  a_BlockFailed_init : Addr
  fd_BlockFailed_init : FuncData
  F_BlockFailed_init : Fun K "__init__" "BlockFailed.__init__" s_BlockFailed_init a_BlockFailed_init fd_BlockFailed_init
  bd_BlockFailed_init : Binds K fd_BlockFailed_init ["self", "block"] []
  k_BlockFailed_init : PySem.W.keepIn K (.ref a_BlockFailed_init) = true
  a_NotClear_init : Addr
  fd_NotClear_init : FuncData
  F_NotClear_init : Fun K "__init__" "NotClear.__init__" s_NotClear_init a_NotClear_init fd_NotClear_init
  bd_NotClear_init : Binds K fd_NotClear_init ["self", "page"] []
  k_NotClear_init : PySem.W.keepIn K (.ref a_NotClear_init) = true
  a_mark_of : Addr
  fd_mark_of : FuncData
  F_mark_of : Fun K "mark_of" "mark_of" s_mark_of a_mark_of fd_mark_of
  bd_mark_of : Binds K fd_mark_of ["stamp", "name"] []
  k_mark_of : PySem.W.keepIn K (.ref a_mark_of) = true
  g_mark_of : mg "mark_of" = some (.ref a_mark_of)
  a_bits_of : Addr
  fd_bits_of : FuncData
  F_bits_of : Fun K "bits_of" "bits_of" s_bits_of a_bits_of fd_bits_of
  bd_bits_of : Binds K fd_bits_of ["sheets"] []
  k_bits_of : PySem.W.keepIn K (.ref a_bits_of) = true
  g_bits_of : mg "bits_of" = some (.ref a_bits_of)
  a_Book_init : Addr
  fd_Book_init : FuncData
  F_Book_init : Fun K "__init__" "Book.__init__" s_Book_init a_Book_init fd_Book_init
  bd_Book_init : Binds K fd_Book_init ["self", "blocks", "pages"] []
  k_Book_init : PySem.W.keepIn K (.ref a_Book_init) = true
  a_Book_mark : Addr
  fd_Book_mark : FuncData
  F_Book_mark : Fun K "mark" "Book.mark" s_Book_mark a_Book_mark fd_Book_mark
  bd_Book_mark : Binds K fd_Book_mark ["self", "name"] []
  k_Book_mark : PySem.W.keepIn K (.ref a_Book_mark) = true
  a_Book_note : Addr
  fd_Book_note : FuncData
  F_Book_note : Fun K "note" "Book.note" s_Book_note a_Book_note fd_Book_note
  bd_Book_note : Binds K fd_Book_note ["self", "page", "name"] []
  k_Book_note : PySem.W.keepIn K (.ref a_Book_note) = true
  a_Book_forget : Addr
  fd_Book_forget : FuncData
  F_Book_forget : Fun K "forget" "Book.forget" s_Book_forget a_Book_forget fd_Book_forget
  bd_Book_forget : Binds K fd_Book_forget ["self", "name"] []
  k_Book_forget : PySem.W.keepIn K (.ref a_Book_forget) = true
  a_Book_emptied : Addr
  fd_Book_emptied : FuncData
  F_Book_emptied : Fun K "emptied" "Book.emptied" s_Book_emptied a_Book_emptied fd_Book_emptied
  bd_Book_emptied : Binds K fd_Book_emptied ["self", "block"] []
  k_Book_emptied : PySem.W.keepIn K (.ref a_Book_emptied) = true
  a_Book_live_pages : Addr
  fd_Book_live_pages : FuncData
  F_Book_live_pages : Fun K "live_pages" "Book.live_pages" s_Book_live_pages a_Book_live_pages fd_Book_live_pages
  bd_Book_live_pages : Binds K fd_Book_live_pages ["self", "block"] []
  k_Book_live_pages : PySem.W.keepIn K (.ref a_Book_live_pages) = true
  a_Book_held : Addr
  fd_Book_held : FuncData
  F_Book_held : Fun K "held" "Book.held" s_Book_held a_Book_held fd_Book_held
  bd_Book_held : Binds K fd_Book_held ["self"] []
  k_Book_held : PySem.W.keepIn K (.ref a_Book_held) = true
  a_Book_tell : Addr
  fd_Book_tell : FuncData
  F_Book_tell : Fun K "tell" "Book.tell" s_Book_tell a_Book_tell fd_Book_tell
  bd_Book_tell : Binds K fd_Book_tell ["self"] []
  k_Book_tell : PySem.W.keepIn K (.ref a_Book_tell) = true
  a_is_whole : Addr
  fd_is_whole : FuncData
  F_is_whole : Fun K "is_whole" "is_whole" s_is_whole a_is_whole fd_is_whole
  bd_is_whole : Binds K fd_is_whole ["thing"] []
  k_is_whole : PySem.W.keepIn K (.ref a_is_whole) = true
  g_is_whole : mg "is_whole" = some (.ref a_is_whole)
  a_is_within : Addr
  fd_is_within : FuncData
  F_is_within : Fun K "is_within" "is_within" s_is_within a_is_within fd_is_within
  bd_is_within : Binds K fd_is_within ["thing", "low", "high"] []
  k_is_within : PySem.W.keepIn K (.ref a_is_within) = true
  g_is_within : mg "is_within" = some (.ref a_is_within)
  a_Plain_init : Addr
  fd_Plain_init : FuncData
  F_Plain_init : Fun K "__init__" "Plain.__init__" s_Plain_init a_Plain_init fd_Plain_init
  bd_Plain_init : Binds K fd_Plain_init ["self", "chip", "terms"] []
  k_Plain_init : PySem.W.keepIn K (.ref a_Plain_init) = true
  a_Plain_good : Addr
  fd_Plain_good : FuncData
  F_Plain_good : Fun K "good" "Plain.good" s_Plain_good a_Plain_good fd_Plain_good
  bd_Plain_good : Binds K fd_Plain_good ["self"] []
  k_Plain_good : PySem.W.keepIn K (.ref a_Plain_good) = true
  a_Plain_free : Addr
  fd_Plain_free : FuncData
  F_Plain_free : Fun K "free" "Plain.free" s_Plain_free a_Plain_free fd_Plain_free
  bd_Plain_free : Binds K fd_Plain_free ["self"] []
  k_Plain_free : PySem.W.keepIn K (.ref a_Plain_free) = true
  a_Plain_part : Addr
  fd_Plain_part : FuncData
  F_Plain_part : Fun K "part" "Plain.part" s_Plain_part a_Plain_part fd_Plain_part
  bd_Plain_part : Binds K fd_Plain_part ["self"] []
  k_Plain_part : PySem.W.keepIn K (.ref a_Plain_part) = true
  a_Plain_spot : Addr
  fd_Plain_spot : FuncData
  F_Plain_spot : Fun K "spot" "Plain.spot" s_Plain_spot a_Plain_spot fd_Plain_spot
  bd_Plain_spot : Binds K fd_Plain_spot ["self"] []
  k_Plain_spot : PySem.W.keepIn K (.ref a_Plain_spot) = true
  a_Plain_reserve : Addr
  fd_Plain_reserve : FuncData
  F_Plain_reserve : Fun K "reserve" "Plain.reserve" s_Plain_reserve a_Plain_reserve fd_Plain_reserve
  bd_Plain_reserve : Binds K fd_Plain_reserve ["self"] []
  k_Plain_reserve : PySem.W.keepIn K (.ref a_Plain_reserve) = true
  a_Plain_ready : Addr
  fd_Plain_ready : FuncData
  F_Plain_ready : Fun K "ready" "Plain.ready" s_Plain_ready a_Plain_ready fd_Plain_ready
  bd_Plain_ready : Binds K fd_Plain_ready ["self"] []
  k_Plain_ready : PySem.W.keepIn K (.ref a_Plain_ready) = true
  a_Plain_make_ready : Addr
  fd_Plain_make_ready : FuncData
  F_Plain_make_ready : Fun K "make_ready" "Plain.make_ready" s_Plain_make_ready a_Plain_make_ready fd_Plain_make_ready
  bd_Plain_make_ready : Binds K fd_Plain_make_ready ["self"] []
  k_Plain_make_ready : PySem.W.keepIn K (.ref a_Plain_make_ready) = true
  a_Plain_set_down : Addr
  fd_Plain_set_down : FuncData
  F_Plain_set_down : Fun K "set_down" "Plain.set_down" s_Plain_set_down a_Plain_set_down fd_Plain_set_down
  bd_Plain_set_down : Binds K fd_Plain_set_down ["self", "name", "value"] []
  k_Plain_set_down : PySem.W.keepIn K (.ref a_Plain_set_down) = true
  a_Plain_lay : Addr
  fd_Plain_lay : FuncData
  F_Plain_lay : Fun K "lay" "Plain.lay" s_Plain_lay a_Plain_lay fd_Plain_lay
  bd_Plain_lay : Binds K fd_Plain_lay ["self", "name", "value"] []
  k_Plain_lay : PySem.W.keepIn K (.ref a_Plain_lay) = true
  a_Plain_need_sheet : Addr
  fd_Plain_need_sheet : FuncData
  F_Plain_need_sheet : Fun K "need_sheet" "Plain.need_sheet" s_Plain_need_sheet a_Plain_need_sheet fd_Plain_need_sheet
  bd_Plain_need_sheet : Binds K fd_Plain_need_sheet ["self", "sheet"] []
  k_Plain_need_sheet : PySem.W.keepIn K (.ref a_Plain_need_sheet) = true
  a_Plain_write : Addr
  fd_Plain_write : FuncData
  F_Plain_write : Fun K "write" "Plain.write" s_Plain_write a_Plain_write fd_Plain_write
  bd_Plain_write : Binds K fd_Plain_write ["self", "sheet", "value"] []
  k_Plain_write : PySem.W.keepIn K (.ref a_Plain_write) = true
  a_Plain_read : Addr
  fd_Plain_read : FuncData
  F_Plain_read : Fun K "read" "Plain.read" s_Plain_read a_Plain_read fd_Plain_read
  bd_Plain_read : Binds K fd_Plain_read ["self", "sheet"] []
  k_Plain_read : PySem.W.keepIn K (.ref a_Plain_read) = true
  a_Plain_held : Addr
  fd_Plain_held : FuncData
  F_Plain_held : Fun K "held" "Plain.held" s_Plain_held a_Plain_held fd_Plain_held
  bd_Plain_held : Binds K fd_Plain_held ["self"] []
  k_Plain_held : PySem.W.keepIn K (.ref a_Plain_held) = true
  a_Store_init : Addr
  fd_Store_init : FuncData
  F_Store_init : Fun K "__init__" "Store.__init__" s_Store_init a_Store_init fd_Store_init
  bd_Store_init : Binds K fd_Store_init ["self", "chip", "terms", "rule"] []
  k_Store_init : PySem.W.keepIn K (.ref a_Store_init) = true
  a_Store_reserve : Addr
  fd_Store_reserve : FuncData
  F_Store_reserve : Fun K "reserve" "Store.reserve" s_Store_reserve a_Store_reserve fd_Store_reserve
  bd_Store_reserve : Binds K fd_Store_reserve ["self"] []
  k_Store_reserve : PySem.W.keepIn K (.ref a_Store_reserve) = true
  a_Store_space : Addr
  fd_Store_space : FuncData
  F_Store_space : Fun K "space" "Store.space" s_Store_space a_Store_space fd_Store_space
  bd_Store_space : Binds K fd_Store_space ["self"] []
  k_Store_space : PySem.W.keepIn K (.ref a_Store_space) = true
  a_Store_tally : Addr
  fd_Store_tally : FuncData
  F_Store_tally : Fun K "tally" "Store.tally" s_Store_tally a_Store_tally fd_Store_tally
  bd_Store_tally : Binds K fd_Store_tally ["self", "block"] []
  k_Store_tally : PySem.W.keepIn K (.ref a_Store_tally) = true
  a_Store_full_ones : Addr
  fd_Store_full_ones : FuncData
  F_Store_full_ones : Fun K "full_ones" "Store.full_ones" s_Store_full_ones a_Store_full_ones fd_Store_full_ones
  bd_Store_full_ones : Binds K fd_Store_full_ones ["self"] []
  k_Store_full_ones : PySem.W.keepIn K (.ref a_Store_full_ones) = true
  a_Store_options : Addr
  fd_Store_options : FuncData
  F_Store_options : Fun K "options" "Store.options" s_Store_options a_Store_options fd_Store_options
  bd_Store_options : Binds K fd_Store_options ["self"] []
  k_Store_options : PySem.W.keepIn K (.ref a_Store_options) = true
  a_Store_otherwise : Addr
  fd_Store_otherwise : FuncData
  F_Store_otherwise : Fun K "otherwise" "Store.otherwise" s_Store_otherwise a_Store_otherwise fd_Store_otherwise
  bd_Store_otherwise : Binds K fd_Store_otherwise ["self"] []
  k_Store_otherwise : PySem.W.keepIn K (.ref a_Store_otherwise) = true
  a_Store_choice : Addr
  fd_Store_choice : FuncData
  F_Store_choice : Fun K "choice" "Store.choice" s_Store_choice a_Store_choice fd_Store_choice
  bd_Store_choice : Binds K fd_Store_choice ["self"] []
  k_Store_choice : PySem.W.keepIn K (.ref a_Store_choice) = true
  a_Store_value_for : Addr
  fd_Store_value_for : FuncData
  F_Store_value_for : Fun K "value_for" "Store.value_for" s_Store_value_for a_Store_value_for fd_Store_value_for
  bd_Store_value_for : Binds K fd_Store_value_for ["self", "page", "name"] []
  k_Store_value_for : PySem.W.keepIn K (.ref a_Store_value_for) = true
  a_Store_moved : Addr
  fd_Store_moved : FuncData
  F_Store_moved : Fun K "moved" "Store.moved" s_Store_moved a_Store_moved fd_Store_moved
  bd_Store_moved : Binds K fd_Store_moved ["self", "block"] []
  k_Store_moved : PySem.W.keepIn K (.ref a_Store_moved) = true
  a_Store_wiped : Addr
  fd_Store_wiped : FuncData
  F_Store_wiped : Fun K "wiped" "Store.wiped" s_Store_wiped a_Store_wiped fd_Store_wiped
  bd_Store_wiped : Binds K fd_Store_wiped ["self", "block"] []
  k_Store_wiped : PySem.W.keepIn K (.ref a_Store_wiped) = true
  a_Store_make_room : Addr
  fd_Store_make_room : FuncData
  F_Store_make_room : Fun K "make_room" "Store.make_room" s_Store_make_room a_Store_make_room fd_Store_make_room
  bd_Store_make_room : Binds K fd_Store_make_room ["self"] []
  k_Store_make_room : PySem.W.keepIn K (.ref a_Store_make_room) = true
  a_Store_make_ready : Addr
  fd_Store_make_ready : FuncData
  F_Store_make_ready : Fun K "make_ready" "Store.make_ready" s_Store_make_ready a_Store_make_ready fd_Store_make_ready
  bd_Store_make_ready : Binds K fd_Store_make_ready ["self"] []
  k_Store_make_ready : PySem.W.keepIn K (.ref a_Store_make_ready) = true
  a_blocks_taken : Addr
  fd_blocks_taken : FuncData
  F_blocks_taken : Fun K "blocks_taken" "blocks_taken" s_blocks_taken a_blocks_taken fd_blocks_taken
  bd_blocks_taken : Binds K fd_blocks_taken ["moves", "pages"] []
  k_blocks_taken : PySem.W.keepIn K (.ref a_blocks_taken) = true
  g_blocks_taken : mg "blocks_taken" = some (.ref a_blocks_taken)
  a_Even_clearings_of : Addr
  fd_Even_clearings_of : FuncData
  F_Even_clearings_of : Fun K "clearings_of" "Even.clearings_of" s_Even_clearings_of a_Even_clearings_of fd_Even_clearings_of
  bd_Even_clearings_of : Binds K fd_Even_clearings_of ["self"] []
  k_Even_clearings_of : PySem.W.keepIn K (.ref a_Even_clearings_of) = true
  a_Even_least : Addr
  fd_Even_least : FuncData
  F_Even_least : Fun K "least" "Even.least" s_Even_least a_Even_least fd_Even_least
  bd_Even_least : Binds K fd_Even_least ["self"] []
  k_Even_least : PySem.W.keepIn K (.ref a_Even_least) = true
  a_Even_gap : Addr
  fd_Even_gap : FuncData
  F_Even_gap : Fun K "gap" "Even.gap" s_Even_gap a_Even_gap fd_Even_gap
  bd_Even_gap : Binds K fd_Even_gap ["self"] []
  k_Even_gap : PySem.W.keepIn K (.ref a_Even_gap) = true
  a_Even_spared : Addr
  fd_Even_spared : FuncData
  F_Even_spared : Fun K "spared" "Even.spared" s_Even_spared a_Even_spared fd_Even_spared
  bd_Even_spared : Binds K fd_Even_spared ["self"] []
  k_Even_spared : PySem.W.keepIn K (.ref a_Even_spared) = true
  a_Even_options : Addr
  fd_Even_options : FuncData
  F_Even_options : Fun K "options" "Even.options" s_Even_options a_Even_options fd_Even_options
  bd_Even_options : Binds K fd_Even_options ["self"] []
  k_Even_options : PySem.W.keepIn K (.ref a_Even_options) = true
  a_Even_otherwise : Addr
  fd_Even_otherwise : FuncData
  F_Even_otherwise : Fun K "otherwise" "Even.otherwise" s_Even_otherwise a_Even_otherwise fd_Even_otherwise
  bd_Even_otherwise : Binds K fd_Even_otherwise ["self"] []
  k_Even_otherwise : PySem.W.keepIn K (.ref a_Even_otherwise) = true
  a_Even_changes : Addr
  fd_Even_changes : FuncData
  F_Even_changes : Fun K "changes" "Even.changes" s_Even_changes a_Even_changes fd_Even_changes
  bd_Even_changes : Binds K fd_Even_changes ["self"] []
  k_Even_changes : PySem.W.keepIn K (.ref a_Even_changes) = true
  a_endurance : Addr
  fd_endurance : FuncData
  F_endurance : Fun K "endurance" "endurance" s_endurance a_endurance fd_endurance
  bd_endurance : Binds K fd_endurance ["blocks", "ills"] []
  k_endurance : PySem.W.keepIn K (.ref a_endurance) = true
  g_endurance : mg "endurance" = some (.ref a_endurance)
  a_Chip_init : Addr
  fd_Chip_init : FuncData
  F_Chip_init : FunD K "__init__" "Chip.__init__" (defArgs s_Chip_init) (defBody s_Chip_init) (defScope s_Chip_init) dfl_Chip_init [] a_Chip_init fd_Chip_init
  ds0_Chip_init : List Value
  dv0_Chip_init : Vals (dfl_Chip_init.drop 2) ds0_Chip_init
  bd0_Chip_init : Binds K fd_Chip_init ["self", "blocks", "pages", "most", "ills"] ds0_Chip_init
  ds2_Chip_init : List Value
  dv2_Chip_init : Vals (dfl_Chip_init.drop 0) ds2_Chip_init
  bd2_Chip_init : Binds K fd_Chip_init ["self", "blocks", "pages", "most", "ills"] ds2_Chip_init
  ds1_Chip_init : List Value
  dv1_Chip_init : Vals (dfl_Chip_init.drop 1) ds1_Chip_init
  bd1_Chip_init : Binds K fd_Chip_init ["self", "blocks", "pages", "most", "ills"] ds1_Chip_init
  k_Chip_init : PySem.W.keepIn K (.ref a_Chip_init) = true
  a_Chip_need_page : Addr
  fd_Chip_need_page : FuncData
  F_Chip_need_page : Fun K "need_page" "Chip.need_page" s_Chip_need_page a_Chip_need_page fd_Chip_need_page
  bd_Chip_need_page : Binds K fd_Chip_need_page ["self", "page"] []
  k_Chip_need_page : PySem.W.keepIn K (.ref a_Chip_need_page) = true
  a_Chip_need_block : Addr
  fd_Chip_need_block : FuncData
  F_Chip_need_block : Fun K "need_block" "Chip.need_block" s_Chip_need_block a_Chip_need_block fd_Chip_need_block
  bd_Chip_need_block : Binds K fd_Chip_need_block ["self", "block"] []
  k_Chip_need_block : PySem.W.keepIn K (.ref a_Chip_need_block) = true
  a_Chip_need_power : Addr
  fd_Chip_need_power : FuncData
  F_Chip_need_power : Fun K "need_power" "Chip.need_power" s_Chip_need_power a_Chip_need_power fd_Chip_need_power
  bd_Chip_need_power : Binds K fd_Chip_need_power ["self"] []
  k_Chip_need_power : PySem.W.keepIn K (.ref a_Chip_need_power) = true
  a_Chip_need_good : Addr
  fd_Chip_need_good : FuncData
  F_Chip_need_good : Fun K "need_good" "Chip.need_good" s_Chip_need_good a_Chip_need_good fd_Chip_need_good
  bd_Chip_need_good : Binds K fd_Chip_need_good ["self", "block"] []
  k_Chip_need_good : PySem.W.keepIn K (.ref a_Chip_need_good) = true
  a_Chip_goes_well : Addr
  fd_Chip_goes_well : FuncData
  F_Chip_goes_well : Fun K "goes_well" "Chip.goes_well" s_Chip_goes_well a_Chip_goes_well fd_Chip_goes_well
  bd_Chip_goes_well : Binds K fd_Chip_goes_well ["self", "block", "worn"] []
  k_Chip_goes_well : PySem.W.keepIn K (.ref a_Chip_goes_well) = true
  a_Chip_put : Addr
  fd_Chip_put : FuncData
  F_Chip_put : Fun K "put" "Chip.put" s_Chip_put a_Chip_put fd_Chip_put
  bd_Chip_put : Binds K fd_Chip_put ["self", "page", "stuff"] []
  k_Chip_put : PySem.W.keepIn K (.ref a_Chip_put) = true
  a_Chip_wipe : Addr
  fd_Chip_wipe : FuncData
  F_Chip_wipe : Fun K "wipe" "Chip.wipe" s_Chip_wipe a_Chip_wipe fd_Chip_wipe
  bd_Chip_wipe : Binds K fd_Chip_wipe ["self", "block"] []
  k_Chip_wipe : PySem.W.keepIn K (.ref a_Chip_wipe) = true
  a_Chip_read : Addr
  fd_Chip_read : FuncData
  F_Chip_read : Fun K "read" "Chip.read" s_Chip_read a_Chip_read fd_Chip_read
  bd_Chip_read : Binds K fd_Chip_read ["self", "page"] []
  k_Chip_read : PySem.W.keepIn K (.ref a_Chip_read) = true
  a_Chip_is_dark : Addr
  fd_Chip_is_dark : FuncData
  F_Chip_is_dark : Fun K "is_dark" "Chip.is_dark" s_Chip_is_dark a_Chip_is_dark fd_Chip_is_dark
  bd_Chip_is_dark : Binds K fd_Chip_is_dark ["self"] []
  k_Chip_is_dark : PySem.W.keepIn K (.ref a_Chip_is_dark) = true
  a_Chip_cleared : Addr
  fd_Chip_cleared : FuncData
  F_Chip_cleared : Fun K "cleared" "Chip.cleared" s_Chip_cleared a_Chip_cleared fd_Chip_cleared
  bd_Chip_cleared : Binds K fd_Chip_cleared ["self", "block"] []
  k_Chip_cleared : PySem.W.keepIn K (.ref a_Chip_cleared) = true
  a_Chip_failed : Addr
  fd_Chip_failed : FuncData
  F_Chip_failed : Fun K "failed" "Chip.failed" s_Chip_failed a_Chip_failed fd_Chip_failed
  bd_Chip_failed : Binds K fd_Chip_failed ["self", "block"] []
  k_Chip_failed : PySem.W.keepIn K (.ref a_Chip_failed) = true
  a_Chip_deeds : Addr
  fd_Chip_deeds : FuncData
  F_Chip_deeds : Fun K "deeds" "Chip.deeds" s_Chip_deeds a_Chip_deeds fd_Chip_deeds
  bd_Chip_deeds : Binds K fd_Chip_deeds ["self"] []
  k_Chip_deeds : PySem.W.keepIn K (.ref a_Chip_deeds) = true
  a_Rule_goes_ahead : Addr
  fd_Rule_goes_ahead : FuncData
  F_Rule_goes_ahead : Fun K "goes_ahead" "Rule.goes_ahead" s_Rule_goes_ahead a_Rule_goes_ahead fd_Rule_goes_ahead
  bd_Rule_goes_ahead : Binds K fd_Rule_goes_ahead ["self", "one", "other", "pages", "now"] []
  k_Rule_goes_ahead : PySem.W.keepIn K (.ref a_Rule_goes_ahead) = true
  a_Rule_choose : Addr
  fd_Rule_choose : FuncData
  F_Rule_choose : Fun K "choose" "Rule.choose" s_Rule_choose a_Rule_choose fd_Rule_choose
  bd_Rule_choose : Binds K fd_Rule_choose ["self", "tallies", "pages", "now"] []
  k_Rule_choose : PySem.W.keepIn K (.ref a_Rule_choose) = true
  a_Terms_init : Addr
  fd_Terms_init : FuncData
  F_Terms_init : FunD K "__init__" "Terms.__init__" (defArgs s_Terms_init) (defBody s_Terms_init) (defScope s_Terms_init) dfl_Terms_init [] a_Terms_init fd_Terms_init
  ds2_Terms_init : List Value
  dv2_Terms_init : Vals (dfl_Terms_init.drop 0) ds2_Terms_init
  bd2_Terms_init : Binds K fd_Terms_init ["self", "blocks", "pages", "sheets", "share", "ill", "spread"] ds2_Terms_init
  k_Terms_init : PySem.W.keepIn K (.ref a_Terms_init) = true
  a_Terms_closed : Addr
  fd_Terms_closed : FuncData
  F_Terms_closed : Fun K "closed" "Terms.closed" s_Terms_closed a_Terms_closed fd_Terms_closed
  bd_Terms_closed : Binds K fd_Terms_closed ["self"] []
  k_Terms_closed : PySem.W.keepIn K (.ref a_Terms_closed) = true
  a__law_cell_at : Addr
  fd__law_cell_at : FuncData
  F__law_cell_at : Fun K "_law_cell_at" "_law_cell_at" s__law_cell_at a__law_cell_at fd__law_cell_at
  bd__law_cell_at : Binds K fd__law_cell_at ["_law_script", "_law_k"] []
  k__law_cell_at : PySem.W.keepIn K (.ref a__law_cell_at) = true
  g__law_cell_at : mg "_law_cell_at" = some (.ref a__law_cell_at)
  a__law_whole : Addr
  fd__law_whole : FuncData
  F__law_whole : Fun K "_law_whole" "_law_whole" s__law_whole a__law_whole fd__law_whole
  bd__law_whole : Binds K fd__law_whole ["_law_found"] []
  k__law_whole : PySem.W.keepIn K (.ref a__law_whole) = true
  g__law_whole : mg "_law_whole" = some (.ref a__law_whole)
  a__law_mix : Addr
  fd__law_mix : FuncData
  F__law_mix : Fun K "_law_mix" "_law_mix" s__law_mix a__law_mix fd__law_mix
  bd__law_mix : Binds K fd__law_mix ["_law_cell", "_law_k"] []
  k__law_mix : PySem.W.keepIn K (.ref a__law_mix) = true
  g__law_mix : mg "_law_mix" = some (.ref a__law_mix)
  a__law_ills : Addr
  fd__law_ills : FuncData
  F__law_ills : Fun K "_law_ills" "_law_ills" s__law_ills a__law_ills fd__law_ills
  bd__law_ills : Binds K fd__law_ills ["_law_script", "_law_blocks"] []
  k__law_ills : PySem.W.keepIn K (.ref a__law_ills) = true
  g__law_ills : mg "_law_ills" = some (.ref a__law_ills)
  a__law_wiped : Addr
  fd__law_wiped : FuncData
  F__law_wiped : Fun K "_law_wiped" "_law_wiped" s__law_wiped a__law_wiped fd__law_wiped
  bd__law_wiped : Binds K fd__law_wiped ["_law_chip", "_law_block"] []
  k__law_wiped : PySem.W.keepIn K (.ref a__law_wiped) = true
  g__law_wiped : mg "_law_wiped" = some (.ref a__law_wiped)
  a__law_due : Addr
  fd__law_due : FuncData
  F__law_due : Fun K "_law_due" "_law_due" s__law_due a__law_due fd__law_due
  bd__law_due : Binds K fd__law_due ["_law_counts", "_law_broken"] []
  k__law_due : PySem.W.keepIn K (.ref a__law_due) = true
  g__law_due : mg "_law_due" = some (.ref a__law_due)
  a__law_right : Addr
  fd__law_right : FuncData
  F__law_right : Fun K "_law_right" "_law_right" s__law_right a__law_right fd__law_right
  bd__law_right : Binds K fd__law_right ["_law_store", "_law_counts", "_law_broken"] []
  k__law_right : PySem.W.keepIn K (.ref a__law_right) = true
  g__law_right : mg "_law_right" = some (.ref a__law_right)
  a_law : Addr
  fd_law : FuncData
  F_law : Fun K "law" "law" s_law a_law fd_law
  bd_law : Binds K fd_law ["_law_script"] []
  k_law : PySem.W.keepIn K (.ref a_law) = true
  C_Book : Addr
  g_Book : mg "Book" = some (.ref C_Book)
  cl_Book : Cls K C_Book
  na_Book_blocks : NoAttr K C_Book "blocks"
  na_Book_pages : NoAttr K C_Book "pages"
  na_Book_where : NoAttr K C_Book "where"
  na_Book_names : NoAttr K C_Book "names"
  na_Book_live : NoAttr K C_Book "live"
  na_Book_filled : NoAttr K C_Book "filled"
  na_Book_born : NoAttr K C_Book "born"
  na_Book_stamp : NoAttr K C_Book "stamp"
  mk_Book : Mk K C_Book a_Book_init
  m_Book_mark : Meth K C_Book "mark" a_Book_mark
  m_Book_note : Meth K C_Book "note" a_Book_note
  m_Book_forget : Meth K C_Book "forget" a_Book_forget
  m_Book_emptied : Meth K C_Book "emptied" a_Book_emptied
  m_Book_live_pages : Meth K C_Book "live_pages" a_Book_live_pages
  m_Book_held : Meth K C_Book "held" a_Book_held
  m_Book_tell : Meth K C_Book "tell" a_Book_tell
  C_Plain : Addr
  g_Plain : mg "Plain" = some (.ref C_Plain)
  cl_Plain : Cls K C_Plain
  na_Plain_chip : NoAttr K C_Plain "chip"
  na_Plain_terms : NoAttr K C_Plain "terms"
  na_Plain_book : NoAttr K C_Plain "book"
  mk_Plain : Mk K C_Plain a_Plain_init
  m_Plain_good : Meth K C_Plain "good" a_Plain_good
  m_Plain_free : Meth K C_Plain "free" a_Plain_free
  m_Plain_part : Meth K C_Plain "part" a_Plain_part
  m_Plain_spot : Meth K C_Plain "spot" a_Plain_spot
  m_Plain_reserve : Meth K C_Plain "reserve" a_Plain_reserve
  m_Plain_ready : Meth K C_Plain "ready" a_Plain_ready
  m_Plain_make_ready : Meth K C_Plain "make_ready" a_Plain_make_ready
  m_Plain_set_down : Meth K C_Plain "set_down" a_Plain_set_down
  m_Plain_lay : Meth K C_Plain "lay" a_Plain_lay
  m_Plain_need_sheet : Meth K C_Plain "need_sheet" a_Plain_need_sheet
  m_Plain_write : Meth K C_Plain "write" a_Plain_write
  m_Plain_read : Meth K C_Plain "read" a_Plain_read
  m_Plain_held : Meth K C_Plain "held" a_Plain_held
  C_Store : Addr
  g_Store : mg "Store" = some (.ref C_Store)
  cl_Store : Cls K C_Store
  na_Store_rule : NoAttr K C_Store "rule"
  na_Store_papers : NoAttr K C_Store "papers"
  na_Store_chip : NoAttr K C_Store "chip"
  na_Store_terms : NoAttr K C_Store "terms"
  na_Store_book : NoAttr K C_Store "book"
  mk_Store : Mk K C_Store a_Store_init
  m_Store_good : Meth K C_Store "good" a_Plain_good
  m_Store_free : Meth K C_Store "free" a_Plain_free
  m_Store_part : Meth K C_Store "part" a_Plain_part
  m_Store_spot : Meth K C_Store "spot" a_Plain_spot
  m_Store_reserve : Meth K C_Store "reserve" a_Store_reserve
  m_Store_ready : Meth K C_Store "ready" a_Plain_ready
  m_Store_make_ready : Meth K C_Store "make_ready" a_Store_make_ready
  m_Store_set_down : Meth K C_Store "set_down" a_Plain_set_down
  m_Store_lay : Meth K C_Store "lay" a_Plain_lay
  m_Store_need_sheet : Meth K C_Store "need_sheet" a_Plain_need_sheet
  m_Store_write : Meth K C_Store "write" a_Plain_write
  m_Store_read : Meth K C_Store "read" a_Plain_read
  m_Store_held : Meth K C_Store "held" a_Plain_held
  m_Store_space : Meth K C_Store "space" a_Store_space
  m_Store_tally : Meth K C_Store "tally" a_Store_tally
  m_Store_full_ones : Meth K C_Store "full_ones" a_Store_full_ones
  m_Store_options : Meth K C_Store "options" a_Store_options
  m_Store_otherwise : Meth K C_Store "otherwise" a_Store_otherwise
  m_Store_choice : Meth K C_Store "choice" a_Store_choice
  m_Store_value_for : Meth K C_Store "value_for" a_Store_value_for
  m_Store_moved : Meth K C_Store "moved" a_Store_moved
  m_Store_wiped : Meth K C_Store "wiped" a_Store_wiped
  m_Store_make_room : Meth K C_Store "make_room" a_Store_make_room
  C_Even : Addr
  g_Even : mg "Even" = some (.ref C_Even)
  cl_Even : Cls K C_Even
  na_Even_rule : NoAttr K C_Even "rule"
  na_Even_papers : NoAttr K C_Even "papers"
  na_Even_chip : NoAttr K C_Even "chip"
  na_Even_terms : NoAttr K C_Even "terms"
  na_Even_book : NoAttr K C_Even "book"
  mk_Even : Mk K C_Even a_Store_init
  m_Even_good : Meth K C_Even "good" a_Plain_good
  m_Even_free : Meth K C_Even "free" a_Plain_free
  m_Even_part : Meth K C_Even "part" a_Plain_part
  m_Even_spot : Meth K C_Even "spot" a_Plain_spot
  m_Even_reserve : Meth K C_Even "reserve" a_Store_reserve
  m_Even_ready : Meth K C_Even "ready" a_Plain_ready
  m_Even_make_ready : Meth K C_Even "make_ready" a_Store_make_ready
  m_Even_set_down : Meth K C_Even "set_down" a_Plain_set_down
  m_Even_lay : Meth K C_Even "lay" a_Plain_lay
  m_Even_need_sheet : Meth K C_Even "need_sheet" a_Plain_need_sheet
  m_Even_write : Meth K C_Even "write" a_Plain_write
  m_Even_read : Meth K C_Even "read" a_Plain_read
  m_Even_held : Meth K C_Even "held" a_Plain_held
  m_Even_space : Meth K C_Even "space" a_Store_space
  m_Even_tally : Meth K C_Even "tally" a_Store_tally
  m_Even_full_ones : Meth K C_Even "full_ones" a_Store_full_ones
  m_Even_options : Meth K C_Even "options" a_Even_options
  m_Even_otherwise : Meth K C_Even "otherwise" a_Even_otherwise
  m_Even_choice : Meth K C_Even "choice" a_Store_choice
  m_Even_value_for : Meth K C_Even "value_for" a_Store_value_for
  m_Even_moved : Meth K C_Even "moved" a_Store_moved
  m_Even_wiped : Meth K C_Even "wiped" a_Store_wiped
  m_Even_make_room : Meth K C_Even "make_room" a_Store_make_room
  m_Even_clearings_of : Meth K C_Even "clearings_of" a_Even_clearings_of
  m_Even_least : Meth K C_Even "least" a_Even_least
  m_Even_gap : Meth K C_Even "gap" a_Even_gap
  m_Even_spared : Meth K C_Even "spared" a_Even_spared
  m_Even_changes : Meth K C_Even "changes" a_Even_changes
  C_Chip : Addr
  g_Chip : mg "Chip" = some (.ref C_Chip)
  cl_Chip : Cls K C_Chip
  na_Chip_blocks : NoAttr K C_Chip "blocks"
  na_Chip_pages : NoAttr K C_Chip "pages"
  na_Chip_most : NoAttr K C_Chip "most"
  na_Chip_lasts : NoAttr K C_Chip "lasts"
  na_Chip_stuff : NoAttr K C_Chip "stuff"
  na_Chip_tried : NoAttr K C_Chip "tried"
  na_Chip_clearings : NoAttr K C_Chip "clearings"
  na_Chip_broken : NoAttr K C_Chip "broken"
  na_Chip_left : NoAttr K C_Chip "left"
  na_Chip_log : NoAttr K C_Chip "log"
  mk_Chip : Mk K C_Chip a_Chip_init
  m_Chip_need_page : Meth K C_Chip "need_page" a_Chip_need_page
  m_Chip_need_block : Meth K C_Chip "need_block" a_Chip_need_block
  m_Chip_need_power : Meth K C_Chip "need_power" a_Chip_need_power
  m_Chip_need_good : Meth K C_Chip "need_good" a_Chip_need_good
  m_Chip_goes_well : Meth K C_Chip "goes_well" a_Chip_goes_well
  m_Chip_put : Meth K C_Chip "put" a_Chip_put
  m_Chip_wipe : Meth K C_Chip "wipe" a_Chip_wipe
  m_Chip_read : Meth K C_Chip "read" a_Chip_read
  m_Chip_is_dark : Meth K C_Chip "is_dark" a_Chip_is_dark
  m_Chip_cleared : Meth K C_Chip "cleared" a_Chip_cleared
  m_Chip_failed : Meth K C_Chip "failed" a_Chip_failed
  m_Chip_deeds : Meth K C_Chip "deeds" a_Chip_deeds
  C_Rule : Addr
  g_Rule : mg "Rule" = some (.ref C_Rule)
  cl_Rule : Cls K C_Rule
  mk0_Rule : Mk0 K C_Rule
  m_Rule_goes_ahead : Meth K C_Rule "goes_ahead" a_Rule_goes_ahead
  m_Rule_choose : Meth K C_Rule "choose" a_Rule_choose
  C_Terms : Addr
  g_Terms : mg "Terms" = some (.ref C_Terms)
  cl_Terms : Cls K C_Terms
  na_Terms_blocks : NoAttr K C_Terms "blocks"
  na_Terms_pages : NoAttr K C_Terms "pages"
  na_Terms_sheets : NoAttr K C_Terms "sheets"
  na_Terms_share : NoAttr K C_Terms "share"
  na_Terms_ill : NoAttr K C_Terms "ill"
  na_Terms_spread : NoAttr K C_Terms "spread"
  mk_Terms : Mk K C_Terms a_Terms_init
  m_Terms_closed : Meth K C_Terms "closed" a_Terms_closed
  C_WornError : Addr
  g_WornError : mg "WornError" = some (.ref C_WornError)
  xc_WornError : XC K C_WornError
  C_NoChip : Addr
  g_NoChip : mg "NoChip" = some (.ref C_NoChip)
  xc_NoChip : XC K C_NoChip
  C_NoPlace : Addr
  g_NoPlace : mg "NoPlace" = some (.ref C_NoPlace)
  xc_NoPlace : XC K C_NoPlace
  C_PowerGone : Addr
  g_PowerGone : mg "PowerGone" = some (.ref C_PowerGone)
  xc_PowerGone : XC K C_PowerGone
  C_BlockFailed : Addr
  g_BlockFailed : mg "BlockFailed" = some (.ref C_BlockFailed)
  xi_BlockFailed : XI K C_BlockFailed a_BlockFailed_init
  nx_BlockFailed_block : PySem.W.findIn K (.ref C_BlockFailed) "block" = some none
  C_NotClear : Addr
  g_NotClear : mg "NotClear" = some (.ref C_NotClear)
  xi_NotClear : XI K C_NotClear a_NotClear_init
  nx_NotClear_page : PySem.W.findIn K (.ref C_NotClear) "page" = some none
  C_NoTerms : Addr
  g_NoTerms : mg "NoTerms" = some (.ref C_NoTerms)
  xc_NoTerms : XC K C_NoTerms
  C_NoSheet : Addr
  g_NoSheet : mg "NoSheet" = some (.ref C_NoSheet)
  xc_NoSheet : XC K C_NoSheet
  C_NoValue : Addr
  g_NoValue : mg "NoValue" = some (.ref C_NoValue)
  xc_NoValue : XC K C_NoValue
  C_Full : Addr
  g_Full : mg "Full" = some (.ref C_Full)
  xc_Full : XC K C_Full
  C_NoRoom : Addr
  g_NoRoom : mg "NoRoom" = some (.ref C_NoRoom)
  xc_NoRoom : XC K C_NoRoom
  wi_WornError : WInit K C_WornError
  ci_Plain : CInit K C_Plain a_Plain_init
  ic_Even : InsC K C_Even
  kn_Even_Store : PySem.W.kitOne K (.ref C_Even) (.ref C_Store) = some true
  kn_Even_Plain : PySem.W.kitOne K (.ref C_Even) (.ref C_Plain) = some true
  em_NoRoom_BlockFailed : PySem.W.exmOne K (.ref C_NoRoom) (.ref C_BlockFailed) = some false
  em_NoTerms_BlockFailed : PySem.W.exmOne K (.ref C_NoTerms) (.ref C_BlockFailed) = some false
  em_NoSheet_BlockFailed : PySem.W.exmOne K (.ref C_NoSheet) (.ref C_BlockFailed) = some false
  em_NoValue_BlockFailed : PySem.W.exmOne K (.ref C_NoValue) (.ref C_BlockFailed) = some false
  em_Full_BlockFailed : PySem.W.exmOne K (.ref C_Full) (.ref C_BlockFailed) = some false
  em_NoChip_BlockFailed : PySem.W.exmOne K (.ref C_NoChip) (.ref C_BlockFailed) = some false
  em_NoPlace_BlockFailed : PySem.W.exmOne K (.ref C_NoPlace) (.ref C_BlockFailed) = some false
  em_PowerGone_BlockFailed : PySem.W.exmOne K (.ref C_PowerGone) (.ref C_BlockFailed) = some false
  em_BlockFailed_BlockFailed : PySem.W.exmOne K (.ref C_BlockFailed) (.ref C_BlockFailed) = some true
  em_NotClear_BlockFailed : PySem.W.exmOne K (.ref C_NotClear) (.ref C_BlockFailed) = some false
  b_len : mg "len" = none
  b_isinstance : mg "isinstance" = none
  b_min : mg "min" = none
  b_max : mg "max" = none
  b_sorted : mg "sorted" = none
  b_int : mg "int" = none
  b_str : mg "str" = none
  b_list : mg "list" = none
  b_bool : mg "bool" = none
  b_range : mg "range" = none
  b_ValueError : mg "ValueError" = none
  u_ROLL : Value
  g_ROLL : mg "ROLL" = some u_ROLL
  r_ROLL : RelV (V.int (64)) u_ROLL
  u_MANY : Value
  g_MANY : mg "MANY" = some u_MANY
  r_MANY : RelV (V.int (16)) u_MANY
  u_MOST : Value
  g_MOST : mg "MOST" = some u_MOST
  r_MOST : RelV (V.int (1000000)) u_MOST
local macro_rules | `(tactic| walk_at "cls") => `(tactic| first | assumption | exact (show Txt _ _ by assumption).cl_Book | exact (show Txt _ _ by assumption).cl_Plain | exact (show Txt _ _ by assumption).cl_Store | exact (show Txt _ _ by assumption).cl_Even | exact (show Txt _ _ by assumption).cl_Chip | exact (show Txt _ _ by assumption).cl_Rule | exact (show Txt _ _ by assumption).cl_Terms)
local macro_rules | `(tactic| walk_at "na") => `(tactic| first | assumption | exact (show Txt _ _ by assumption).na_Book_blocks | exact (show Txt _ _ by assumption).na_Book_pages | exact (show Txt _ _ by assumption).na_Book_where | exact (show Txt _ _ by assumption).na_Book_names | exact (show Txt _ _ by assumption).na_Book_live | exact (show Txt _ _ by assumption).na_Book_filled | exact (show Txt _ _ by assumption).na_Book_born | exact (show Txt _ _ by assumption).na_Book_stamp | exact (show Txt _ _ by assumption).na_Plain_chip | exact (show Txt _ _ by assumption).na_Plain_terms | exact (show Txt _ _ by assumption).na_Plain_book | exact (show Txt _ _ by assumption).na_Store_rule | exact (show Txt _ _ by assumption).na_Store_papers | exact (show Txt _ _ by assumption).na_Store_chip | exact (show Txt _ _ by assumption).na_Store_terms | exact (show Txt _ _ by assumption).na_Store_book | exact (show Txt _ _ by assumption).na_Even_rule | exact (show Txt _ _ by assumption).na_Even_papers | exact (show Txt _ _ by assumption).na_Even_chip | exact (show Txt _ _ by assumption).na_Even_terms | exact (show Txt _ _ by assumption).na_Even_book | exact (show Txt _ _ by assumption).na_Chip_blocks | exact (show Txt _ _ by assumption).na_Chip_pages | exact (show Txt _ _ by assumption).na_Chip_most | exact (show Txt _ _ by assumption).na_Chip_lasts | exact (show Txt _ _ by assumption).na_Chip_stuff | exact (show Txt _ _ by assumption).na_Chip_tried | exact (show Txt _ _ by assumption).na_Chip_clearings | exact (show Txt _ _ by assumption).na_Chip_broken | exact (show Txt _ _ by assumption).na_Chip_left | exact (show Txt _ _ by assumption).na_Chip_log | exact (show Txt _ _ by assumption).na_Terms_blocks | exact (show Txt _ _ by assumption).na_Terms_pages | exact (show Txt _ _ by assumption).na_Terms_sheets | exact (show Txt _ _ by assumption).na_Terms_share | exact (show Txt _ _ by assumption).na_Terms_ill | exact (show Txt _ _ by assumption).na_Terms_spread)

section
variable {P : Program} {w : World} {K : PySem.W.Frag} {mg : Str → Option Value} {base : Heap}
abbrev FO (P : Program) (w : World) (K : PySem.W.Frag) (mg : Str → Option Value) (base : Heap) := FnOk P w K mg base (L2.CX P w)
/-! ### the law's reader -/
def cl (ns : List Int) (k : Int) : Int := ns.getD k.toNat 0
def spCell (K : PySem.W.Frag) : Sp := fun vs H Q _ => ∃ (a : Addr) (ns : List Int) (k : Int), vs = [.ref a, .int k] ∧ SqL K H a (ns.map V.int) ∧ 0 ≤ k ∧ Q (.int (cl ns k)) H
theorem ok_cell_at (T : Txt K mg) : FO P w K mg base 1 T.a__law_cell_at T.fd__law_cell_at ["_law_script", "_law_k"] (spCell K) := by
  have sc := sc__law_cell_at
  refine T.F__law_cell_at.okX sc (fun vs H Q E h => ?_) (fun cdv A outer s H vs Q E hr h => ?_)
  · obtain ⟨a, ns, k, rfl, _⟩ := h
    rfl
  · obtain ⟨a, ns, k, rfl, hS, h0, q⟩ := h
    refine ⟨_, (pss_cons (ps_if (pt_cmpR op_uLt (pv 1) (pe_callB (cr_ulen) (by rfl) T.b_len bt_len (pa_cons (pv 0) pa_nil)) (nomark _)) (pss_one (ps_ret (pe_ix ix_seq (pv 0) (pv 1) (fun _ _ => rfl)))) pss_nil)
      (pss_one (ps_ret pe_int))), ?_⟩
    walk_at "begin"
    walk_at "if"
    refine x_iteD (fun h => ?_) (fun h => ?_)
    · walk_at "go"
      exact q
    · walk_at "go"
      have e : cl ns k = 0 := by
        unfold cl
        rw [List.getD_eq_getElem?_getD, List.getElem?_eq_none (by omega)]
        rfl
      rw [e] at q
      exact q

theorem x_cell {H : Hp} {Q : VK} {E : XK} {a : Addr} {ns : List Int} {k : Int} (h : SqL K H a (ns.map V.int)) (q : Q (.int (cl ns k)) H) (h0 : 0 ≤ k) : spCell K [.ref a, .int k] H Q E := ⟨a, ns, k, rfl, h, h0, q⟩
local macro_rules | `(tactic| walk_at "u") => `(tactic| ((with_reducible refine' x_cell ?hq ?_ ?h0); (case hq => walk_at "sq"); (try (case h0 => walk_at "side"))))

/-- a value that is no whole number, of a kind that is met here -/
def NotI (K : PySem.W.Frag) (H : Hp) (v : V) : Prop := v = .non ∨ (∃ b, v = .bl b) ∨ (∃ s, v = .str s) ∨ ∃ p, v = .ref p ∧ (TyX K H v (.type "list") ∨ TyX K H v (.type "tuple"))

def spLWhole (K : PySem.W.Frag) : Sp := fun vs H Q _ => ∃ v, vs = [v] ∧ ((∃ n, v = .int n ∧ Q (.bl true) H) ∨ (NotI K H v ∧ Q (.bl false) H))
theorem x_lwhole {H : Hp} {Q : VK} {E : XK} {n : Int} (q : Q (.bl true) H) : spLWhole K [.int n] H Q E := ⟨_, rfl, .inl ⟨n, rfl, q⟩⟩
theorem x_lwholeN {H : Hp} {Q : VK} {E : XK} {v : V} (h : NotI K H v) (q : Q (.bl false) H) : spLWhole K [v] H Q E := ⟨_, rfl, .inr ⟨h, q⟩⟩
local macro_rules | `(tactic| walk_at "u") => `(tactic| first | (with_reducible refine x_lwhole ?_) | (with_reducible refine x_lwholeN (by assumption) ?_))
theorem ok_whole (T : Txt K mg) : FO P w K mg base 1 T.a__law_whole T.fd__law_whole ["_law_found"] (spLWhole K) := by
  have sc := sc__law_whole
  refine T.F__law_whole.okX sc (fun vs H Q E h => ?_) (fun cdv A outer s H vs Q E hr h => ?_)
  · obtain ⟨v, rfl, _⟩ := h
    rfl
  · obtain ⟨v, rfl, h⟩ := h
    refine ⟨_, (pss_one (ps_ret (pe_andT (pe_callB (cr_uisinstance) (by rfl) T.b_isinstance bt_isinstance (pa_cons (pv 0) (pa_cons (pe_bltn (v := .ty "int") (by rfl) T.b_int bt_int rfl) pa_nil))) (pe_one (pe_notT (pe_callB (cr_uisinstance) (by rfl) T.b_isinstance bt_isinstance (pa_cons (pv 0) (pa_cons (pe_bltn (v := .ty "bool") (by rfl) T.b_bool bt_bool rfl) pa_nil)))))))), ?_⟩
    walk_at "begin"
    walk_at "go"
    rcases h with ⟨n, rfl, q⟩ | ⟨h, q⟩
    · walk_at "go"
      exact q
    · rcases h with rfl | ⟨b, rfl⟩ | ⟨z, rfl⟩ | ⟨p, rfl, h⟩
      · walk_at "go"
        exact q
      · walk_at "go"
        exact q
      · walk_at "go"
        exact q
      · rcases h with h | h
        · refine x_isiR h (b := false) (by decide +kernel) ?_
          walk_at "go"
          exact q
        · refine x_isiR h (b := false) (by decide +kernel) ?_
          walk_at "go"
          exact q

/-! ### whole numbers -/
def spWhole (K : PySem.W.Frag) : Sp := fun vs H Q _ => ∃ v, vs = [v] ∧ ((∃ n, v = .int n ∧ Q (.bl true) H) ∨ (NotI K H v ∧ Q (.bl false) H))
theorem x_whole {H : Hp} {Q : VK} {E : XK} {n : Int} (q : Q (.bl true) H) : spWhole K [.int n] H Q E := ⟨_, rfl, .inl ⟨n, rfl, q⟩⟩
theorem x_wholeN {H : Hp} {Q : VK} {E : XK} {v : V} (h : NotI K H v) (q : Q (.bl false) H) : spWhole K [v] H Q E := ⟨_, rfl, .inr ⟨h, q⟩⟩
local macro_rules | `(tactic| walk_at "u") => `(tactic| first | (with_reducible refine x_whole ?_) | (with_reducible refine x_wholeN (by assumption) ?_))
theorem ok_is_whole (T : Txt K mg) : FO P w K mg base 1 T.a_is_whole T.fd_is_whole ["thing"] (spWhole K) := by
  have sc := sc_is_whole
  refine T.F_is_whole.okX sc (fun vs H Q E h => ?_) (fun cdv A outer s H vs Q E hr h => ?_)
  · obtain ⟨v, rfl, _⟩ := h
    rfl
  · obtain ⟨v, rfl, h⟩ := h
    refine ⟨_, (pss_one (ps_ret (pe_andT (pe_callB (cr_uisinstance) (by rfl) T.b_isinstance bt_isinstance (pa_cons (pv 0) (pa_cons (pe_bltn (v := .ty "int") (by rfl) T.b_int bt_int rfl) pa_nil))) (pe_one (pe_notT (pe_callB (cr_uisinstance) (by rfl) T.b_isinstance bt_isinstance (pa_cons (pv 0) (pa_cons (pe_bltn (v := .ty "bool") (by rfl) T.b_bool bt_bool rfl) pa_nil)))))))), ?_⟩
    walk_at "begin"
    walk_at "go"
    rcases h with ⟨n, rfl, q⟩ | ⟨h, q⟩
    · walk_at "go"
      exact q
    · rcases h with rfl | ⟨b, rfl⟩ | ⟨z, rfl⟩ | ⟨p, rfl, h⟩
      · walk_at "go"
        exact q
      · walk_at "go"
        exact q
      · walk_at "go"
        exact q
      · rcases h with h | h
        · refine x_isiR h (b := false) (by decide +kernel) ?_
          walk_at "go"
          exact q
        · refine x_isiR h (b := false) (by decide +kernel) ?_
          walk_at "go"
          exact q
def spWithin (K : PySem.W.Frag) : Sp := fun vs H Q _ => ∃ v lo hi, vs = [v, .int lo, .int hi] ∧ ((∃ n, v = .int n ∧ Q (.bl (decide (lo ≤ n ∧ n ≤ hi))) H) ∨ (NotI K H v ∧ Q (.bl false) H))
theorem x_within {H : Hp} {Q : VK} {E : XK} {n lo hi : Int} (q : Q (.bl (decide (lo ≤ n ∧ n ≤ hi))) H) : spWithin K [.int n, .int lo, .int hi] H Q E := ⟨_, _, _, rfl, .inl ⟨n, rfl, q⟩⟩
theorem x_withinN {H : Hp} {Q : VK} {E : XK} {v : V} {lo hi : Int} (h : NotI K H v) (q : Q (.bl false) H) : spWithin K [v, .int lo, .int hi] H Q E := ⟨_, _, _, rfl, .inr ⟨h, q⟩⟩
local macro_rules | `(tactic| walk_at "u") => `(tactic| first | (with_reducible refine x_within ?_) | (with_reducible refine x_withinN (by assumption) ?_))
theorem ok_is_within (T : Txt K mg) : FO P w K mg base 2 T.a_is_within T.fd_is_within ["thing", "low", "high"] (spWithin K) := by
  have sc := sc_is_within
  refine T.F_is_within.okX sc (fun vs H Q E h => ?_) (fun cdv A outer s H vs Q E hr h => ?_)
  · obtain ⟨v, lo, hi, rfl, _⟩ := h
    rfl
  · obtain ⟨v, lo, hi, rfl, h⟩ := h
    refine ⟨_, (pss_one (ps_ret (pe_andT (pe_callS (ok_is_whole T) (hr.mono (by decide)) (by rfl) T.g_is_whole T.k_is_whole T.bd_is_whole (passAt (takes_of rfl rfl rfl rfl)) (pa_cons (pv 0) pa_nil)) (pe_one (pe_chain op_le op_le (pv 1) (pv 0) (pv 2)))))), ?_⟩
    walk_at "begin"
    walk_at "go"
    rcases h with ⟨n, rfl, q⟩ | ⟨h, q⟩
    · walk_at "go"
      refine x_iteD (fun h => ?_) (fun h => ?_)
      · walk_at "go"
        have e : decide (n ≤ hi) = decide (lo ≤ n ∧ n ≤ hi) := by simp [h]
        rw [e]
        exact q
      · walk_at "go"
        have e : false = decide (lo ≤ n ∧ n ≤ hi) := by simp [h]
        rw [← e] at q
        exact q
    · walk_at "go"
      exact q


/-! ### values that may be numbers -/
def NotS (v : V) : Prop := v = .non ∨ (∃ b, v = .bl b) ∨ ∃ s, v = .str s
theorem NotS.to {H : Hp} {v : V} (h : NotS v) : NotI K H v := by
  rcases h with h | h | h
  · exact .inl h
  · exact .inr (.inl h)
  · exact .inr (.inr (.inl h))
inductive Num : V → Option Int → Prop
  | int (n : Int) : Num (.int n) (some n)
  | no (v : V) : NotS v → Num v none
def inB (o : Option Int) (lo hi : Int) : Bool := match o with
  | some n => decide (lo ≤ n ∧ n ≤ hi)
  | none => false
theorem x_wNum {H : Hp} {Q : VK} {E : XK} {v : V} {o : Option Int} {lo hi : Int} (h : Num v o) (q : Q (.bl (inB o lo hi)) H) : spWithin K [v, .int lo, .int hi] H Q E := by
  cases h with
  | int n => exact ⟨_, _, _, rfl, .inl ⟨n, rfl, q⟩⟩
  | no v h => exact ⟨_, _, _, rfl, .inr ⟨h.to, q⟩⟩
theorem Num.of_inB {v : V} {o : Option Int} {lo hi : Int} (h : Num v o) (e : inB o lo hi = true) : ∃ n, v = .int n ∧ o = some n ∧ lo ≤ n ∧ n ≤ hi := by
  cases h with
  | int n => exact ⟨n, rfl, rfl, of_decide_eq_true e⟩
  | no v h => cases e

/-! ### the chip -/
structure Cs where
  b : Int
  p : Int
  m : Int
  lasts : List V
  stuff : List V
  tried : List Int
  clr : List Int
  broken : List Bool
  left : Option Int
  log : List (Str × Int × Bool)
structure CF where
  dx : Addr
  la : Addr
  st : Addr
  tr : Addr
  cl : Addr
  br : Addr
  lg : Addr
def lv : Option Int → V
  | none => .non
  | some n => .int n
def chipF (F : CF) (c : Cs) : List (Str × V) := [("blocks", .int c.b), ("pages", .int c.p), ("most", .int c.m), ("lasts", .ref F.la), ("stuff", .ref F.st), ("tried", .ref F.tr), ("clearings", .ref F.cl), ("broken", .ref F.br), ("left", lv c.left), ("log", .ref F.lg)]
def LogAt (H : Hp) (v : V) (e : Str × Int × Bool) : Prop := ∃ a, v = .ref a ∧ H a = some (.tup [.str e.1, .int e.2.1, .bl e.2.2])
def LogAll (H : Hp) (vs : List V) (es : List (Str × Int × Bool)) : Prop := vs.length = es.length ∧ ∀ (i : Nat) v e, vs[i]? = some v → es[i]? = some e → LogAt H v e
structure Sizes (c : Cs) : Prop where
  b : 2 ≤ c.b ∧ c.b ≤ 16
  p : 1 ≤ c.p ∧ c.p ≤ 16
  m : 0 ≤ c.m ∧ c.m ≤ 1000000
  lasts : (c.lasts.length : Int) = c.b
  stuff : (c.stuff.length : Int) = c.b * c.p
  tried : (c.tried.length : Int) = c.b
  clr : (c.clr.length : Int) = c.b
  broken : (c.broken.length : Int) = c.b
  lsc : ∀ x ∈ c.lasts, x = .non ∨ ∃ n : Int, x = .int n
def CF.all (F : CF) (r : Addr) : List Addr := [r, F.la, F.st, F.tr, F.cl, F.br, F.lg]
structure ChipAt (C : Addr) (H : Hp) (r : Addr) (F : CF) (c : Cs) : Prop where
  obj : H r = some (.ins C F.dx (chipF F c))
  la : H F.la = some (.lst c.lasts)
  st : H F.st = some (.lst c.stuff)
  tr : H F.tr = some (.lst (c.tried.map V.int))
  cl : H F.cl = some (.lst (c.clr.map V.int))
  br : H F.br = some (.lst (c.broken.map V.bl))
  lg : ∃ vs, H F.lg = some (.lst vs) ∧ LogAll H vs c.log
  nd : (CF.all F r).Nodup
  sz : Sizes c
theorem LogAll.mono {H H' : Hp} {vs : List V} {es : List (Str × Int × Bool)} (s : TupS H H') (h : LogAll H vs es) : LogAll H' vs es := ⟨h.1, fun i v e h1 h2 => by
  obtain ⟨a, q, h⟩ := h.2 i v e h1 h2
  exact ⟨a, q, s _ _ h⟩⟩
theorem ChipAt.mono {C : Addr} {H H' : Hp} {r : Addr} {F : CF} {c : Cs} (s : Same H H') (h : ChipAt C H r F c) : ChipAt C H' r F c := by
  obtain ⟨vs, e, l⟩ := h.lg
  exact ⟨s _ _ h.obj, s _ _ h.la, s _ _ h.st, s _ _ h.tr, s _ _ h.cl, s _ _ h.br, ⟨vs, s _ _ e, l.mono (TupS.of s)⟩, h.nd, h.sz⟩
/-- the addresses of a chip are unlike -/
theorem ChipAt.ne {C : Addr} {H : Hp} {r : Addr} {F : CF} {c : Cs} (h : ChipAt C H r F c) : (r ≠ F.la ∧ r ≠ F.st ∧ r ≠ F.tr ∧ r ≠ F.cl ∧ r ≠ F.br ∧ r ≠ F.lg) ∧ (F.la ≠ F.st ∧ F.la ≠ F.tr ∧ F.la ≠ F.cl ∧ F.la ≠ F.br ∧ F.la ≠ F.lg) ∧ (F.st ≠ F.tr ∧ F.st ≠ F.cl ∧ F.st ≠ F.br ∧ F.st ≠ F.lg) ∧ (F.tr ≠ F.cl ∧ F.tr ≠ F.br ∧ F.tr ≠ F.lg) ∧ (F.cl ≠ F.br ∧ F.cl ≠ F.lg) ∧ F.br ≠ F.lg := by
  have d := h.nd
  unfold CF.all at d
  simp only [List.nodup_cons, List.mem_cons, List.not_mem_nil, or_false, not_or, not_false_eq_true, List.nodup_nil, and_true] at d
  exact ⟨d.1, d.2.1, d.2.2.1, d.2.2.2.1, d.2.2.2.2.1, d.2.2.2.2.2⟩
/-- tuples stay where a chip changes -/
theorem ChipAt.tups {C : Addr} {H H' : Hp} {r : Addr} {F : CF} {c : Cs} (h : ChipAt C H r F c) (s : Off (F.all r) H H') : TupS H H' := fun a xs e => by
  refine s a _ (fun m => ?_) e
  obtain ⟨vs, e7, _⟩ := h.lg
  unfold CF.all at m
  simp only [List.mem_cons, List.not_mem_nil, or_false] at m
  rcases m with rfl | rfl | rfl | rfl | rfl | rfl | rfl
  · rw [h.obj] at e; cases e
  · rw [h.la] at e; cases e
  · rw [h.st] at e; cases e
  · rw [h.tr] at e; cases e
  · rw [h.cl] at e; cases e
  · rw [h.br] at e; cases e
  · rw [e7] at e; cases e
theorem ChipAt.off {C : Addr} {H H' : Hp} {r : Addr} {F : CF} {c : Cs} {S : List Addr} (h : ChipAt C H r F c) (s : Off S H H') (n : ∀ a, a ∈ F.all r → a ∉ S) (ht : TupS H H') : ChipAt C H' r F c := by
  obtain ⟨vs, e, l⟩ := h.lg
  unfold CF.all at n
  exact ⟨s.at h.obj (n _ (by simp)), s.at h.la (n _ (by simp)), s.at h.st (n _ (by simp)), s.at h.tr (n _ (by simp)), s.at h.cl (n _ (by simp)), s.at h.br (n _ (by simp)), ⟨vs, s.at e (n _ (by simp)), l.mono ht⟩, h.nd, h.sz⟩
/-- a list that is another one's changes: tuples stay -/
theorem _root_.Kit.Off.tupsL {a : Addr} {H H' : Hp} {xs : List V} (s : Off [a] H H') (h : H a = some (.lst xs)) : TupS H H' := fun b ys e => s b _ (fun m => by rw [List.mem_singleton.mp m, h] at e; cases e) e
def Cs.dark (c : Cs) : Bool := decide (c.left = some 0)
/-- how an asking ends -/
inductive Res
  | ok
  | place
  | dark
  | failed (b : Int)
  | clear (n : Int)
  | value
def spDark (C : Addr) : Sp := fun vs H Q _ => ∃ r F c, vs = [.ref r] ∧ ChipAt C H r F c ∧ Q (.bl c.dark) H
theorem lv_eq0 {o : Option Int} : decide (lv o = .int 0) = decide (o = some 0) := by
  cases o with
  | none => rfl
  | some n => rw [decide_eq_decide]; simp [lv]
theorem lv_scal {o : Option Int} {n : Int} : scal (lv o) (.int n) = true := by cases o <;> rfl
theorem ok_Chip_is_dark (T : Txt K mg) : FO P w K mg base 1 T.a_Chip_is_dark T.fd_Chip_is_dark ["self"] (spDark T.C_Chip) := by
  have sc := sc_Chip_is_dark
  refine T.F_Chip_is_dark.okX sc (fun vs H Q E h => ?_) (fun cdv A outer s H vs Q E hr h => ?_)
  · obtain ⟨_, _, _, rfl, _⟩ := h
    rfl
  · obtain ⟨r, F, c, rfl, hC, q⟩ := h
    refine ⟨_, (pss_one (ps_ret (pe_cmpR (op_uEq hr.units) (pe_fld (pv 0) rfl) pe_int (nomark _)))), ?_⟩
    have o := hC.obj
    unfold chipF at o
    walk_at "begin"
    walk_at "go"
    refine x_eqSc lv_scal ?_
    rw [lv_eq0]
    exact q
theorem MO_dark (T : Txt K mg) : MO P w K mg base (L2.CX P w) 1 T.C_Chip "is_dark" (spDark T.C_Chip) := ⟨⟨_, _, _, T.cl_Chip, T.m_Chip_is_dark, ok_Chip_is_dark T, T.bd_Chip_is_dark⟩⟩
theorem x_mDark {T : Txt K mg} {H : Hp} {Q : VK} {E : XK} {σ : L2.St} {r : Addr} {F : CF} {c : Cs} (hC : ChipAt T.C_Chip H r F c) (q : Q (.bl c.dark) H) : mtK P w K mg base (L2.CX P w) 1 "is_dark" E σ tNil Q (.ref r) H :=
  x_mtK hC.obj (MO_dark T) rfl ⟨r, F, c, rfl, hC, q⟩
def spPower (T : Txt K mg) : Sp := fun vs H Q E => ∃ r F c, vs = [.ref r] ∧ ChipAt T.C_Chip H r F c ∧ (c.dark = false → Q .non H) ∧ (c.dark = true → E (.ref T.C_PowerGone) none H)
theorem ok_Chip_need_power (T : Txt K mg) : FO P w K mg base 2 T.a_Chip_need_power T.fd_Chip_need_power ["self"] (spPower T) := by
  have sc := sc_Chip_need_power
  refine T.F_Chip_need_power.okX sc (fun vs H Q E h => ?_) (fun cdv A outer s H vs Q E hr h => ?_)
  · obtain ⟨_, _, _, rfl, _⟩ := h
    rfl
  · obtain ⟨r, F, c, rfl, hC, q1, q2⟩ := h
    refine ⟨_, (pss_one (ps_if (pt_truth (pe_methD0 (k := 1) (pv 0) (hr.mono (by decide)) (passAt (takes_of rfl rfl rfl rfl))) (by intro _; rfl)) (pss_one (ps_raiseK rfl (takes_of rfl rfl rfl rfl) (pmk_ownK T.xc_PowerGone T.g_PowerGone rfl))) pss_nil)), ?_⟩
    walk_at "begin"
    walk_at "go"
    refine x_mDark hC ?_
    walk_at "go"
    refine x_iteB (fun h => ?_) (fun h => ?_)
    · walk_at "go"
      exact q2 h
    · walk_at "go"
      exact q1 h
theorem x_mPower {T : Txt K mg} {H : Hp} {Q : VK} {E : XK} {σ : L2.St} {r : Addr} {F : CF} {c : Cs} (hC : ChipAt T.C_Chip H r F c) (q1 : c.dark = false → Q .non H) (q2 : c.dark = true → E (.ref T.C_PowerGone) none H) : mtK P w K mg base (L2.CX P w) 2 "need_power" E σ tNil Q (.ref r) H :=
  x_mtK hC.obj ⟨⟨_, _, _, T.cl_Chip, T.m_Chip_need_power, ok_Chip_need_power T, T.bd_Chip_need_power⟩⟩ rfl ⟨r, F, c, rfl, hC, q1, q2⟩
def spPage (T : Txt K mg) : Sp := fun vs H Q E => ∃ r F c v o, vs = [.ref r, v] ∧ ChipAt T.C_Chip H r F c ∧ Num v o ∧ (inB o 0 (c.b * c.p - 1) = true → Q .non H) ∧ (inB o 0 (c.b * c.p - 1) = false → E (.ref T.C_NoPlace) none H)
theorem ok_Chip_need_page (T : Txt K mg) : FO P w K mg base 3 T.a_Chip_need_page T.fd_Chip_need_page ["self", "page"] (spPage T) := by
  have sc := sc_Chip_need_page
  refine T.F_Chip_need_page.okX sc (fun vs H Q E h => ?_) (fun cdv A outer s H vs Q E hr h => ?_)
  · obtain ⟨_, _, _, _, _, rfl, _⟩ := h
    rfl
  · obtain ⟨r, F, c, v, o, rfl, hC, hn, q1, q2⟩ := h
    refine ⟨_, (pss_one (ps_if (pt_not (pt_truth (pe_callS (ok_is_within T) (hr.mono (by decide)) (by rfl) T.g_is_within T.k_is_within T.bd_is_within (passAt (takes_of rfl rfl rfl rfl)) (pa_cons (pv 1) (pa_cons pe_int (pa_cons (pe_op op_sub (pe_callB (cr_ulen) (by rfl) T.b_len bt_len (pa_cons (pe_fld (pv 0) rfl) pa_nil)) pe_int) pa_nil)))) (by intro _; rfl))) (pss_one (ps_raiseK rfl (takes_of rfl rfl rfl rfl) (pmk_ownK T.xc_NoPlace T.g_NoPlace rfl))) pss_nil)), ?_⟩
    have ho := hC.obj
    have hst := hC.st
    have hsz := hC.sz.stuff
    unfold chipF at ho
    walk_at "begin"
    walk_at "go"
    rw [hsz]
    refine x_wNum hn ?_
    walk_at "go"
    refine x_iteB (fun h => ?_) (fun h => ?_)
    · walk_at "go"
      exact q1 h
    · walk_at "go"
      exact q2 h

theorem x_mPage {T : Txt K mg} {H : Hp} {Q : VK} {E : XK} {σ : L2.St} {r : Addr} {F : CF} {c : Cs} {t : TA} (hC : ChipAt T.C_Chip H r F c) (h : t σ H fun vs H2 => spPage T (.ref r :: vs) H2 Q E) : mtK P w K mg base (L2.CX P w) 3 "need_page" E σ t Q (.ref r) H :=
  x_mtK hC.obj ⟨⟨_, _, _, T.cl_Chip, T.m_Chip_need_page, ok_Chip_need_page T, T.bd_Chip_need_page⟩⟩ rfl h
theorem x_page {T : Txt K mg} {H : Hp} {Q : VK} {E : XK} {r : Addr} {F : CF} {c : Cs} {v : V} {o : Option Int} (hC : ChipAt T.C_Chip H r F c) (hn : Num v o) (q1 : inB o 0 (c.b * c.p - 1) = true → Q .non H) (q2 : inB o 0 (c.b * c.p - 1) = false → E (.ref T.C_NoPlace) none H) : spPage T [.ref r, v] H Q E := ⟨r, F, c, v, o, rfl, hC, hn, q1, q2⟩
def spBlock (T : Txt K mg) : Sp := fun vs H Q E => ∃ r F c v o, vs = [.ref r, v] ∧ ChipAt T.C_Chip H r F c ∧ Num v o ∧ (inB o 0 (c.b - 1) = true → Q .non H) ∧ (inB o 0 (c.b - 1) = false → E (.ref T.C_NoPlace) none H)
theorem ok_Chip_need_block (T : Txt K mg) : FO P w K mg base 3 T.a_Chip_need_block T.fd_Chip_need_block ["self", "block"] (spBlock T) := by
  have sc := sc_Chip_need_block
  refine T.F_Chip_need_block.okX sc (fun vs H Q E h => ?_) (fun cdv A outer s H vs Q E hr h => ?_)
  · obtain ⟨_, _, _, _, _, rfl, _⟩ := h
    rfl
  · obtain ⟨r, F, c, v, o, rfl, hC, hn, q1, q2⟩ := h
    refine ⟨_, (pss_one (ps_if (pt_not (pt_truth (pe_callS (ok_is_within T) (hr.mono (by decide)) (by rfl) T.g_is_within T.k_is_within T.bd_is_within (passAt (takes_of rfl rfl rfl rfl)) (pa_cons (pv 1) (pa_cons pe_int (pa_cons (pe_op op_sub (pe_fld (pv 0) rfl) pe_int) pa_nil)))) (by intro _; rfl))) (pss_one (ps_raiseK rfl (takes_of rfl rfl rfl rfl) (pmk_ownK T.xc_NoPlace T.g_NoPlace rfl))) pss_nil)), ?_⟩
    have ho := hC.obj
    unfold chipF at ho
    walk_at "begin"
    walk_at "go"
    refine x_wNum hn ?_
    walk_at "go"
    refine x_iteB (fun h => ?_) (fun h => ?_)
    · walk_at "go"
      exact q1 h
    · walk_at "go"
      exact q2 h
theorem x_mBlock {T : Txt K mg} {H : Hp} {Q : VK} {E : XK} {σ : L2.St} {r : Addr} {F : CF} {c : Cs} {t : TA} (hC : ChipAt T.C_Chip H r F c) (h : t σ H fun vs H2 => spBlock T (.ref r :: vs) H2 Q E) : mtK P w K mg base (L2.CX P w) 3 "need_block" E σ t Q (.ref r) H :=
  x_mtK hC.obj ⟨⟨_, _, _, T.cl_Chip, T.m_Chip_need_block, ok_Chip_need_block T, T.bd_Chip_need_block⟩⟩ rfl h
theorem x_block {T : Txt K mg} {H : Hp} {Q : VK} {E : XK} {r : Addr} {F : CF} {c : Cs} {v : V} {o : Option Int} (hC : ChipAt T.C_Chip H r F c) (hn : Num v o) (q1 : inB o 0 (c.b - 1) = true → Q .non H) (q2 : inB o 0 (c.b - 1) = false → E (.ref T.C_NoPlace) none H) : spBlock T [.ref r, v] H Q E := ⟨r, F, c, v, o, rfl, hC, hn, q1, q2⟩
/-! the refusals with a field -/
def SmallI (v : V) : Prop := ∃ n : Int, v = .int n ∧ 0 ≤ n ∧ n < 300
theorem ok_BlockFailed_init (T : Txt K mg) : FO P w K mg base 1 T.a_BlockFailed_init T.fd_BlockFailed_init ["self", "block"] (spXInit K T.C_BlockFailed "block" SmallI) := by
  have sc := sc_BlockFailed_init
  refine T.F_BlockFailed_init.okX sc (fun vs H Q E h => ?_) (fun cdv A outer s H vs Q E hr h => ?_)
  · obtain ⟨_, _, rfl, _⟩ := h
    rfl
  · obtain ⟨a, v, rfl, ⟨n, rfl, h0, h1⟩, o, hn, ha, q⟩ := h
    refine ⟨_, (pss_cons (ps_expr (pe_weinit T.wi_WornError rfl T.g_WornError (pa_cons (pv 0) (pa_cons (pe_op op_uAdd (pe_op op_uAdd pe_str (pe_callTy ct_str (by rfl) T.b_str bt_str (pa_cons (pv 1) pa_nil))) pe_str) pa_nil))))
      (pss_one (ps_ost (pv 0) (pv 1)))), ?_⟩
    have hlog := small_log h0 (by omega : n < 1000000)
    have hlen := str_len h0 h1
    have z1 : (Str.ofString "block ").length + (Str.ofString (toString n)).length ≤ sizeLine := line_len (by
      have e1 : (Str.ofString "block ").length = 6 := by decide
      omega)
    have z2 : (Str.ofString "block " ++ Str.ofString (toString n)).length + (Str.ofString " failed").length ≤ sizeLine := line_len (by
      have e1 : (Str.ofString "block ").length = 6 := by decide
      have e2 : (Str.ofString " failed").length = 7 := by decide
      have e3 : (Str.ofString "block " ++ Str.ofString (toString n)).length = (Str.ofString "block ").length + (Str.ofString (toString n)).length := PySem.Str.length_append _ _
      omega)
    walk_at "begin"
    walk_at "go"
    refine x_veK o ha ?_ (Nat.le_of_ble_eq_true rfl)
    dsimp only
    refine x_ost ?_
    walk_at "go"
    exact ⟨a, _, rfl, o, hn, .inl ⟨ha, q⟩⟩
theorem ok_NotClear_init (T : Txt K mg) : FO P w K mg base 1 T.a_NotClear_init T.fd_NotClear_init ["self", "page"] (spXInit K T.C_NotClear "page" SmallI) := by
  have sc := sc_NotClear_init
  refine T.F_NotClear_init.okX sc (fun vs H Q E h => ?_) (fun cdv A outer s H vs Q E hr h => ?_)
  · obtain ⟨_, _, rfl, _⟩ := h
    rfl
  · obtain ⟨a, v, rfl, ⟨n, rfl, h0, h1⟩, o, hn, ha, q⟩ := h
    refine ⟨_, (pss_cons (ps_expr (pe_weinit T.wi_WornError rfl T.g_WornError (pa_cons (pv 0) (pa_cons (pe_op op_uAdd (pe_op op_uAdd pe_str (pe_callTy ct_str (by rfl) T.b_str bt_str (pa_cons (pv 1) pa_nil))) pe_str) pa_nil))))
      (pss_one (ps_ost (pv 0) (pv 1)))), ?_⟩
    have hlog := small_log h0 (by omega : n < 1000000)
    have hlen := str_len h0 h1
    have z1 : (Str.ofString "page ").length + (Str.ofString (toString n)).length ≤ sizeLine := line_len (by
      have e1 : (Str.ofString "page ").length = 5 := by decide
      omega)
    have z2 : (Str.ofString "page " ++ Str.ofString (toString n)).length + (Str.ofString " is not clear").length ≤ sizeLine := line_len (by
      have e1 : (Str.ofString "page ").length = 5 := by decide
      have e2 : (Str.ofString " is not clear").length = 13 := by decide
      have e3 : (Str.ofString "page " ++ Str.ofString (toString n)).length = (Str.ofString "page ").length + (Str.ofString (toString n)).length := PySem.Str.length_append _ _
      omega)
    walk_at "begin"
    walk_at "go"
    refine x_veK o ha ?_ (Nat.le_of_ble_eq_true rfl)
    dsimp only
    refine x_ost ?_
    walk_at "go"
    exact ⟨a, _, rfl, o, hn, .inl ⟨ha, q⟩⟩
def spGoodB (T : Txt K mg) : Sp := fun vs H Q E => ∃ (r : Addr) (F : CF) (c : Cs) (n : Int), vs = [.ref r, .int n] ∧ ChipAt T.C_Chip H r F c ∧ 0 ≤ n ∧ n < c.b ∧ (c.broken.getD n.toNat false = false → Q .non H) ∧
  (c.broken.getD n.toNat false = true → ∀ d H1, Same H H1 → H d = none → H1 d = some (.xd [("block", .int n)]) → E (.ref T.C_BlockFailed) (some d) H1)
theorem ok_Chip_need_good (T : Txt K mg) : FO P w K mg base 3 T.a_Chip_need_good T.fd_Chip_need_good ["self", "block"] (spGoodB T) := by
  have sc := sc_Chip_need_good
  refine T.F_Chip_need_good.okX sc (fun vs H Q E h => ?_) (fun cdv A outer s H vs Q E hr h => ?_)
  · obtain ⟨_, _, _, _, rfl, _⟩ := h
    rfl
  · obtain ⟨r, F, c, n, rfl, hC, h0, h1, q1, q2⟩ := h
    refine ⟨_, (pss_one (ps_if (pt_truth (pe_ix ix_seq (pe_fld (pv 0) rfl) (pv 1) (fun _ _ => rfl)) (by intro _; rfl)) (pss_one (ps_raiseK rfl (takes_of rfl rfl rfl rfl) (pmk_oex T.xi_BlockFailed.o T.xi_BlockFailed.i T.xi_BlockFailed.t (ok_BlockFailed_init T) (hr.mono (by decide)) T.bd_BlockFailed_init .nil passE0 rfl T.g_BlockFailed (pa_cons (pv 1) pa_nil)))) pss_nil)), ?_⟩
    have ho := hC.obj
    have hbr := hC.br
    have hsz := hC.sz.broken
    have hb := hC.sz.b
    unfold chipF at ho
    walk_at "begin"
    walk_at "go"
    refine x_iteB (fun h => ?_) (fun h => ?_)
    · walk_at "go"
      refine x_moK ⟨n, rfl, h0, by omega⟩ (fun d H1 hd hs hx => q2 h d H1 hs hd hx) T.xi_BlockFailed.o T.nx_BlockFailed_block
    · walk_at "go"
      exact q1 h
theorem x_mGoodB {T : Txt K mg} {H : Hp} {Q : VK} {E : XK} {σ : L2.St} {r : Addr} {F : CF} {c : Cs} {t : TA} (hC : ChipAt T.C_Chip H r F c) (h : t σ H fun vs H2 => spGoodB T (.ref r :: vs) H2 Q E) : mtK P w K mg base (L2.CX P w) 3 "need_good" E σ t Q (.ref r) H :=
  x_mtK hC.obj ⟨⟨_, _, _, T.cl_Chip, T.m_Chip_need_good, ok_Chip_need_good T, T.bd_Chip_need_good⟩⟩ rfl h
/-! a deed begins -/
def Cs.tick (c : Cs) (n : Nat) (well : Bool) : Cs := { c with left := c.left.map (· - 1), tried := c.tried.set n (c.tried.getD n 0 + 1), broken := c.broken.set n (!well) }
def Cs.well (c : Cs) (n : Nat) (worn : Bool) : Bool := !worn && !decide (V.int (c.tried.getD n 0) = c.lasts.getD n .non)
theorem Sizes.tick {c : Cs} (h : Sizes c) (n : Nat) (well : Bool) : Sizes (c.tick n well) := ⟨h.b, h.p, h.m, h.lasts, h.stuff, by show ((c.tried.set _ _).length : Int) = _; rw [List.length_set]; exact h.tried, h.clr, by show ((c.broken.set _ _).length : Int) = _; rw [List.length_set]; exact h.broken, h.lsc⟩
def spGoes (T : Txt K mg) : Sp := fun vs H Q _ => ∃ (r : Addr) (F : CF) (c : Cs) (n : Int) (worn : Bool), vs = [.ref r, .int n, .bl worn] ∧ ChipAt T.C_Chip H r F c ∧ 0 ≤ n ∧ n < c.b ∧
  ∀ H', Off (F.all r) H H' → ChipAt T.C_Chip H' r F (c.tick n.toNat (c.well n.toNat worn)) → Q (.bl (c.well n.toNat worn)) H'
theorem lsc_scal {c : Cs} (h : Sizes c) {n : Nat} (hn : (n : Int) < c.b) {m : Int} : scal (.int m) (c.lasts.getD n .non) = true := by
  have hl := h.lasts
  have hlt : n < c.lasts.length := by omega
  rcases h.lsc _ (List.getElem_mem hlt) with e | ⟨k, e⟩ <;> simp [hlt, e, scal]
theorem ok_Chip_goes_well (T : Txt K mg) : FO P w K mg base 1 T.a_Chip_goes_well T.fd_Chip_goes_well ["self", "block", "worn"] (spGoes T) := by
  have sc := sc_Chip_goes_well
  refine T.F_Chip_goes_well.okX sc (fun vs H Q E h => ?_) (fun cdv A outer s H vs Q E hr h => ?_)
  · obtain ⟨_, _, _, _, _, rfl, _⟩ := h
    rfl
  · obtain ⟨r, F, c, n, worn, rfl, hC, h0, h1, q⟩ := h
    refine ⟨_, (pss_cons (ps_if (pt_cmpR op_uIsNot (pe_fld (pv 0) rfl) pe_non (nomark _)) (pss_one (ps_fldaug (pv 0) pe_int in_sub)) pss_nil)
      (pss_cons (ps_set (i := 3) sc.nd rfl (by first | exact Or.inl rfl | exact Or.inr rfl) (pe_andT (pe_notT (pv 2)) (pe_one (pe_cmpR (op_uNe hr.units) (pe_ix ix_seq (pe_fld (pv 0) rfl) (pv 1) (fun _ _ => rfl)) (pe_ix ix_seq (pe_fld (pv 0) rfl) (pv 1) (fun _ _ => rfl)) (nomark _)))))
      (pss_cons (ps_augS (pe_fld (pv 0) rfl) (pv 1) get_list pe_int ip_add set_list)
      (pss_cons (ps_asg (pe_notT (pv 3)) (pg_sub (pe_fld (pv 0) rfl) (pv 1) set_list))
      (pss_one (ps_ret (pv 3))))))), ?_⟩
    obtain ⟨⟨n1, n2, n3, n4, n5, n6⟩, ⟨n7, n8, n9, n10, n11⟩, ⟨n12, n13, n14, n15⟩, ⟨n16, n17, n18⟩, ⟨n19, n20⟩, n21⟩ := hC.ne
    have ho := hC.obj
    have hla := hC.la
    have hst := hC.st
    have htr := hC.tr
    have hcl := hC.cl
    have hbr := hC.br
    have hsz := hC.sz
    obtain ⟨lvs, hlg, hlog⟩ := hC.lg
    have z1 := hsz.lasts
    have z2 := hsz.tried
    have z3 := hsz.broken
    unfold chipF at ho
    walk_at "begin"
    refine x_join (fun σ' H1 => σ' = [some (.ref r), some (.int n), some (.bl worn), none] ∧ Off [r] H H1 ∧ H1 r = some (.ins T.C_Chip F.dx (chipF F (c.tick n.toNat (c.well n.toNat worn))))) (fun R hR => ?_) ?_
    · walk_at "go"
      cases hl : c.left with
      | none =>
        rw [hl] at ho
        refine iteT ?_
        walk_at "go"
        refine hR _ _ ⟨rfl, Off.refl, ?_⟩
        rw [ho]
        unfold chipF Cs.tick
        rw [hl]
        rfl
      | some m =>
        rw [hl] at ho
        refine iteF ?_
        walk_at "go"
        refine x_faK ho rfl ?_ T.cl_Chip T.na_Chip_left
        walk_at "go"
        refine x_rSub ?_
        refine x_f3O (fs' := chipF F (c.tick n.toNat (c.well n.toNat worn))) ho ?_ (fun H1 hO hI => ?_) (Nat.le_of_ble_eq_true rfl)
        · unfold chipF Cs.tick
          rw [hl]
          rfl
        · exact hR _ _ ⟨rfl, hO, hI⟩
    intro σ' H1 ⟨hσ, hO1, ho1⟩
    subst hσ
    have ho1' := ho1
    unfold chipF at ho1
    refine x_join (fun σ' H' => σ' = [some (.ref r), some (.int n), some (.bl worn), some (.bl (c.well n.toNat worn))] ∧ H' = H1) (fun R hR => ?_) ?_
    · walk_at "go"
      cases worn with
      | true => exact iteT (hR _ _ ⟨rfl, rfl⟩)
      | false =>
        refine iteF ?_
        walk_at "go"
        refine x_neSc (lsc_scal hsz (n := n.toNat) (by omega)) ?_
        exact hR _ _ ⟨rfl, rfl⟩
    intro σ' H' ⟨hσ, hH⟩
    subst hσ hH
    walk_at "go"
    rename_i H2 hO2 hI2 H3 hO3 hI3
    have f1 : H3 r = some (.ins T.C_Chip F.dx (chipF F (c.tick n.toNat (c.well n.toNat worn)))) := by walk_at "hp"
    have f2 : H3 F.la = some (.lst c.lasts) := by walk_at "hp"
    have f3 : H3 F.st = some (.lst c.stuff) := by walk_at "hp"
    have f4 : H3 F.cl = some (.lst (c.clr.map V.int)) := by walk_at "hp"
    have f5 : H3 F.lg = some (.lst lvs) := by walk_at "hp"
    have f6 : H3 F.tr = some (.lst ((c.tried.set n.toNat (c.tried.getD n.toNat 0 + 1)).map V.int)) := by
      rw [List.map_set]
      walk_at "hp"
    have f7 : H3 F.br = some (.lst ((c.broken.set n.toNat (!c.well n.toNat worn)).map V.bl)) := by
      rw [List.map_set]
      exact hI3
    have hoff : Off (F.all r) H H3 := by unfold CF.all; walk_at "off"
    exact q H3 hoff ⟨f1, f2, f3, f6, f4, f7, ⟨lvs, f5, hlog.mono (hC.tups hoff)⟩, hC.nd, hsz.tick _ _⟩
theorem x_mGoes {T : Txt K mg} {H : Hp} {Q : VK} {E : XK} {σ : L2.St} {r : Addr} {F : CF} {c : Cs} {t : TA} (hC : ChipAt T.C_Chip H r F c) (h : t σ H fun vs H2 => spGoes T (.ref r :: vs) H2 Q E) : mtK P w K mg base (L2.CX P w) 1 "goes_well" E σ t Q (.ref r) H :=
  x_mtK hC.obj ⟨⟨_, _, _, T.cl_Chip, T.m_Chip_goes_well, ok_Chip_goes_well T, T.bd_Chip_goes_well⟩⟩ rfl h
/-- how an asking ends, in a heap -/
def Fin (T : Txt K mg) (res : Res) (Qn : Hp → Prop) (E : XK) (H' : Hp) : Prop := match res with
  | .ok => Qn H'
  | .place => E (.ref T.C_NoPlace) none H'
  | .dark => E (.ref T.C_PowerGone) none H'
  | .failed b => ∀ d, H' d = some (.xd [("block", .int b)]) → E (.ref T.C_BlockFailed) (some d) H'
  | .clear n => ∀ d, H' d = some (.xd [("page", .int n)]) → E (.ref T.C_NotClear) (some d) H'
  | .value => False
theorem x_finOk {T : Txt K mg} {Qn : Hp → Prop} {E : XK} {H' : Hp} (h : Qn H') : Fin T .ok Qn E H' := h
theorem x_finDark {T : Txt K mg} {Qn : Hp → Prop} {E : XK} {H' : Hp} (h : E (.ref T.C_PowerGone) none H') : Fin T .dark Qn E H' := h
theorem x_finPlace {T : Txt K mg} {Qn : Hp → Prop} {E : XK} {H' : Hp} (h : E (.ref T.C_NoPlace) none H') : Fin T .place Qn E H' := h

/-! ### put -/
def Cs.said (c : Cs) (k : Nat) (w : Bool) (e : Str × Int) : Cs := { c.tick k w with log := c.log ++ [(e.1, e.2, w)] }
def Cs.putR (c : Cs) (o : Option Int) (v : V) : Res × Cs :=
  if inB o 0 (c.b * c.p - 1) = false then (.place, c) else if c.dark = true then (.dark, c)
  else if c.broken.getD (o.getD 0 / c.p).toNat false = true then (.failed (o.getD 0 / c.p), c)
  else if c.stuff.getD (o.getD 0).toNat .non ≠ .non then (.clear (o.getD 0), c)
  else if c.well (o.getD 0 / c.p).toNat false = true then (.ok, { c.said (o.getD 0 / c.p).toNat true ("put", o.getD 0) with stuff := c.stuff.set (o.getD 0).toNat v })
  else (.failed (o.getD 0 / c.p), c.said (o.getD 0 / c.p).toNat false ("put", o.getD 0))
theorem Sizes.said {c : Cs} (h : Sizes c) (n : Nat) (w : Bool) (e : Str × Int) : Sizes (c.said n w e) := ⟨(h.tick n w).b, h.p, h.m, h.lasts, h.stuff, (h.tick n w).tried, h.clr, (h.tick n w).broken, h.lsc⟩
theorem LogAll.snoc {H : Hp} {vs : List V} {es : List (Str × Int × Bool)} {v : V} {e : Str × Int × Bool} (h : LogAll H vs es) (hv : LogAt H v e) : LogAll H (vs ++ [v]) (es ++ [e]) := by
  refine ⟨by simp [h.1], fun i x y h1 h2 => ?_⟩
  by_cases hi : i < vs.length
  · rw [List.getElem?_append_left hi] at h1
    rw [List.getElem?_append_left (h.1 ▸ hi)] at h2
    exact h.2 i x y h1 h2
  · have e : i = vs.length := by
      have := (List.getElem?_eq_some_iff.mp h1).1
      simp at this
      omega
    subst e
    rw [List.getElem?_append_right (Nat.le_refl _)] at h1
    rw [h.1, List.getElem?_append_right (Nat.le_refl _)] at h2
    simp at h1 h2
    subst h1 h2
    exact hv
local macro_rules | `(tactic| walk_at "u") => `(tactic| ((with_reducible refine' x_appO ?ho ?_ ?hl); (case ho => walk_at "hp"); (try (case hl => walk_at "side")); intro H1 hO hI; (try dsimp only)))
def spPut (T : Txt K mg) : Sp := fun vs H Q E => ∃ (r : Addr) (F : CF) (c : Cs) (vp v : V) (o : Option Int), vs = [.ref r, vp, v] ∧ ChipAt T.C_Chip H r F c ∧ Num vp o ∧ c.log.length < 900000 ∧
  ∀ H', Off (F.all r) H H' → ChipAt T.C_Chip H' r F (c.putR o v).2 → Fin T (c.putR o v).1 (Q .non) E H'
theorem ok_Chip_put (T : Txt K mg) : FO P w K mg base 4 T.a_Chip_put T.fd_Chip_put ["self", "page", "stuff"] (spPut T) := by
  have sc := sc_Chip_put
  refine T.F_Chip_put.okX sc (fun vs H Q E h => ?_) (fun cdv A outer s H vs Q E hr h => ?_)
  · obtain ⟨_, _, _, _, _, _, rfl, _⟩ := h
    rfl
  · obtain ⟨r, F, c, vp, v, o, rfl, hC, hn, hll, q⟩ := h
    refine ⟨_, (pss_cons (ps_expr (pe_methD (k := 3) (pv 0) (hr.mono (by decide)) (passAt (takes_of rfl rfl rfl rfl)) (pa_cons (pv 1) pa_nil)))
      (pss_cons (ps_expr (pe_methD0 (k := 2) (pv 0) (hr.mono (by decide)) (passAt (takes_of rfl rfl rfl rfl))))
      (pss_cons (ps_set (i := 3) sc.nd rfl (by first | exact Or.inl rfl | exact Or.inr rfl) (pe_op op_fdivW (pv 1) (pe_fld (pv 0) rfl)))
      (pss_cons (ps_expr (pe_methD (k := 3) (pv 0) (hr.mono (by decide)) (passAt (takes_of rfl rfl rfl rfl)) (pa_cons (pv 3) pa_nil)))
      (pss_cons (ps_if (pt_cmpR op_uIsNot (pe_ix ix_seq (pe_fld (pv 0) rfl) (pv 1) (fun _ _ => rfl)) pe_non (nomark _)) (pss_one (ps_raiseK rfl (takes_of rfl rfl rfl rfl) (pmk_oex T.xi_NotClear.o T.xi_NotClear.i T.xi_NotClear.t (ok_NotClear_init T) (hr.mono (by decide)) T.bd_NotClear_init .nil passE0 rfl T.g_NotClear (pa_cons (pv 1) pa_nil)))) pss_nil)
      (pss_cons (ps_set (i := 4) sc.nd rfl (by first | exact Or.inl rfl | exact Or.inr rfl) (pe_methD (k := 1) (pv 0) (hr.mono (by decide)) (passAt (takes_of rfl rfl rfl rfl)) (pa_cons (pv 3) (pa_cons pe_bl pa_nil))))
      (pss_cons (ps_expr (pe_bm PySem.F.plainAttrs_list PySem.F.slot_list_append PySem.F.type_list_append mt_append (pe_fld (pv 0) rfl) (pa_cons (pe_tup (pa_cons pe_str (pa_cons (pv 1) (pa_cons (pv 4) pa_nil)))) pa_nil)))
      (pss_cons (ps_if (pt_not (pt_truth (pv 4) (by intro _; rfl))) (pss_one (ps_raiseK rfl (takes_of rfl rfl rfl rfl) (pmk_oex T.xi_BlockFailed.o T.xi_BlockFailed.i T.xi_BlockFailed.t (ok_BlockFailed_init T) (hr.mono (by decide)) T.bd_BlockFailed_init .nil passE0 rfl T.g_BlockFailed (pa_cons (pv 3) pa_nil)))) pss_nil)
      (pss_one (ps_asg (pv 2) (pg_sub (pe_fld (pv 0) rfl) (pv 1) set_list))))))))))), ?_⟩
    unfold Cs.putR at q
    have hsz := hC.sz
    obtain ⟨hb1, hb2⟩ := hsz.b
    obtain ⟨hp1, hp2⟩ := hsz.p
    walk_at "begin"
    walk_at "go"
    refine x_mPage hC ?_
    walk_at "go"
    refine x_page hC hn (fun hin => ?_) (fun hin => ?_)
    rotate_left
    · rw [if_pos hin] at q
      exact q H Off.refl hC
    rw [if_neg (by rw [hin]; decide)] at q
    obtain ⟨n, rfl, rfl, h0, h1⟩ := hn.of_inB hin
    dsimp only [Option.getD] at q
    have hk0 : 0 ≤ n / c.p := Int.ediv_nonneg h0 (by omega)
    have hk1 : n / c.p < c.b := Int.ediv_lt_of_lt_mul (by omega) (by omega)
    walk_at "go"
    refine x_mPower hC (fun hd => ?_) (fun hd => ?_)
    rotate_left
    · rw [if_pos hd] at q
      exact q H Off.refl hC
    rw [if_neg (by rw [hd]; decide)] at q
    have ho := hC.obj
    unfold chipF at ho
    have hst := hC.st
    have z4 := hsz.stuff
    walk_at "go"
    refine x_mGoodB hC ?_
    walk_at "go"
    refine ⟨r, F, c, _, rfl, hC, hk0, hk1, fun hg => ?_, fun hg d H1 hs hd1 hx => ?_⟩
    rotate_left
    · rw [if_pos hg] at q
      exact q H1 (Off.of hs) (hC.mono hs) d hx
    rw [if_neg (by rw [hg]; decide)] at q
    walk_at "go"
    walk_at "if"
    have hbp : c.b * c.p ≤ 16 * 16 := Int.mul_le_mul hb2 hp2 (by omega) (by decide)
    refine x_iteD (fun hcl => ?_) (fun hcl => ?_)
    rotate_left
    · walk_at "go"
      refine x_moK ⟨n, rfl, h0, by omega⟩ (fun d H1 hd hs hx => ?_) T.xi_NotClear.o T.nx_NotClear_page
      rw [if_pos hcl] at q
      exact q H1 (Off.of hs) (hC.mono hs) d hx
    rw [if_neg (fun z => z hcl)] at q
    walk_at "go"
    refine x_mGoes hC ?_
    walk_at "go"
    refine ⟨r, F, c, n / c.p, false, rfl, hC, hk0, hk1, fun H1 hO1 hC1 => ?_⟩
    obtain ⟨⟨n1, n2, n3, n4, n5, n6⟩, ⟨n7, n8, n9, n10, n11⟩, ⟨n12, n13, n14, n15⟩, ⟨n16, n17, n18⟩, ⟨n19, n20⟩, n21⟩ := hC.ne
    have hsz1 := hsz.said (n / c.p).toNat (c.well (n / c.p).toNat false) ("put", n)
    have hlog := hC1.lg
    have o1' := hC1.obj
    have a1 := hC1.la
    have a2 := hC1.st
    have a3 := hC1.tr
    have a4 := hC1.cl
    have a5 := hC1.br
    obtain ⟨lvs, hlg, hla⟩ := hlog
    have hlv : lvs.length < sizeLine := Nat.lt_of_lt_of_le (m := 900000) (by rw [hla.1]; exact hll) (by decide)
    have hla1 : LogAll H1 lvs c.log := hla
    obtain ⟨w, hw⟩ : ∃ w, c.well (n / c.p).toNat false = w := ⟨_, rfl⟩
    have qT : w = true → ∀ H', Off (F.all r) H H' → ChipAt T.C_Chip H' r F { c.said (n / c.p).toNat true ("put", n) with stuff := c.stuff.set n.toNat v } → Q .non H' := fun h => by
      rw [if_pos (hw.trans h)] at q
      exact q
    have qF : w = false → ∀ H', Off (F.all r) H H' → ChipAt T.C_Chip H' r F (c.said (n / c.p).toNat false ("put", n)) → ∀ d, H' d = some (.xd [("block", .int (n / c.p))]) → E (.ref T.C_BlockFailed) (some d) H' := fun h => by
      rw [if_neg (by rw [hw, h]; decide)] at q
      exact q
    clear q
    rw [hw] at o1' a1 a2 a3 a4 a5 hsz1 hC1 ⊢
    have o1 := o1'
    unfold chipF at o1
    have hoff1 := hO1
    have hO1 := hoff1
    clear hO1
    walk_at "go"
    rename_i qt H2 hqt hs2 hn2 H3 hO3 hI3
    have f1 : H3 r = some (.ins T.C_Chip F.dx (chipF F (c.tick (n / c.p).toNat w))) := by walk_at "hp"
    have f2 : H3 F.la = some (.lst c.lasts) := by walk_at "hp"
    have f3 : H3 F.st = some (.lst c.stuff) := by walk_at "hp"
    have f4 : H3 F.cl = some (.lst (c.clr.map V.int)) := by walk_at "hp"
    have f6 : H3 F.tr = some (.lst ((c.tick (n / c.p).toNat w).tried.map V.int)) := by walk_at "hp"
    have f7 : H3 F.br = some (.lst ((c.tick (n / c.p).toNat w).broken.map V.bl)) := by walk_at "hp"
    have hoff13 : Off (F.all r) H1 H3 := by unfold CF.all; walk_at "off"
    have hoff3 := hoff1.trans hoff13
    have hq3 : H3 qt = some (.tup [.str "put", .int n, .bl w]) := hO3.at hn2 (nin_of (ne_of_none hlg hqt).symm)
    have hla3 : LogAll H3 (lvs ++ [.ref qt]) (c.log ++ [(("put" : Str), n, w)]) := ((hla1.mono (hC1.tups hoff13))).snoc ⟨qt, rfl, hq3⟩
    have hC3 : ChipAt T.C_Chip H3 r F (c.said (n / c.p).toNat w ("put", n)) := ⟨f1, f2, f3, f6, f4, f7, ⟨_, hI3, hla3⟩, hC.nd, hsz1⟩
    refine x_join (fun σ' H' => σ' = [some (.ref r), some (.int n), some v, some (.int (n / c.p)), some (.bl w)] ∧ H' = H3 ∧ w = true) (fun R hR => ?_) ?_
    · walk_at "go"
      refine x_iteB (fun h => ?_) (fun h => ?_)
      · walk_at "go"
        exact hR _ _ ⟨rfl, rfl, h⟩
      · subst h
        walk_at "go"
        refine x_moK ⟨n / c.p, rfl, hk0, by omega⟩ (fun d H4 hd hs hx => ?_) T.xi_BlockFailed.o T.nx_BlockFailed_block
        exact qF rfl H4 (hoff3.trans (Off.of hs)) (hC3.mono hs) d hx
    intro σ' H' ⟨hσ, hH, hwt⟩
    subst hσ hH hwt
    unfold chipF at f1
    have hC3' := hC3
    clear hoff13
    have hst3 : (n : Int) < c.stuff.length := by omega
    walk_at "go"
    rename_i H4 hO4 hI4
    have g1 : H4 r = some (.ins T.C_Chip F.dx (chipF F (c.tick (n / c.p).toNat true))) := by unfold chipF; walk_at "hp"
    have g2 : H4 F.la = some (.lst c.lasts) := by walk_at "hp"
    have g4 : H4 F.cl = some (.lst (c.clr.map V.int)) := by walk_at "hp"
    have g6 : H4 F.tr = some (.lst ((c.tick (n / c.p).toNat true).tried.map V.int)) := by walk_at "hp"
    have g7 : H4 F.br = some (.lst ((c.tick (n / c.p).toNat true).broken.map V.bl)) := by walk_at "hp"
    have g8 : H4 F.lg = some (.lst (lvs ++ [.ref qt])) := by walk_at "hp"
    have hoff34 : Off (F.all r) H' H4 := by unfold CF.all; walk_at "off"
    exact qT rfl H4 (hoff3.trans hoff34) ⟨g1, g2, hI4, g6, g4, g7, ⟨_, g8, hla3.mono (hC3'.tups hoff34)⟩, hC.nd, ⟨hsz1.b, hsz1.p, hsz1.m, hsz1.lasts, by show ((c.stuff.set _ _).length : Int) = _; rw [List.length_set]; exact hsz.stuff, hsz1.tried, hsz1.clr, hsz1.broken, hsz1.lsc⟩⟩
theorem x_mPut {T : Txt K mg} {H : Hp} {Q : VK} {E : XK} {σ : L2.St} {r : Addr} {F : CF} {c : Cs} {t : TA} (hC : ChipAt T.C_Chip H r F c) (h : t σ H fun vs H2 => spPut T (.ref r :: vs) H2 Q E) : mtK P w K mg base (L2.CX P w) 4 "put" E σ t Q (.ref r) H :=
  x_mtK hC.obj ⟨⟨_, _, _, T.cl_Chip, T.m_Chip_put, ok_Chip_put T, T.bd_Chip_put⟩⟩ rfl h

/-! ### wipe -/
/-- the pages of a block, put back to nothing: the first i of them -/
def blankN (l : List V) (s : Nat) : Nat → List V
  | 0 => l
  | i + 1 => (blankN l s i).set (s + i) .non
theorem blankN_len (l : List V) (s : Nat) : ∀ i, (blankN l s i).length = l.length
  | 0 => rfl
  | i + 1 => by
    show ((blankN l s i).set _ _).length = _
    rw [List.length_set, blankN_len l s i]
def Cs.wipeR (c : Cs) (o : Option Int) : Res × Cs :=
  if inB o 0 (c.b - 1) = false then (.place, c) else if c.dark = true then (.dark, c)
  else if c.broken.getD (o.getD 0).toNat false = true then (.failed (o.getD 0), c)
  else if c.well (o.getD 0).toNat (decide (c.clr.getD (o.getD 0).toNat 0 = c.m)) = true then (.ok, { c.said (o.getD 0).toNat true ("wipe", o.getD 0) with clr := c.clr.set (o.getD 0).toNat (c.clr.getD (o.getD 0).toNat 0 + 1), stuff := blankN c.stuff ((o.getD 0).toNat * c.p.toNat) c.p.toNat })
  else (.failed (o.getD 0), c.said (o.getD 0).toNat false ("wipe", o.getD 0))
def spWipe (T : Txt K mg) : Sp := fun vs H Q E => ∃ (r : Addr) (F : CF) (c : Cs) (vp : V) (o : Option Int), vs = [.ref r, vp] ∧ ChipAt T.C_Chip H r F c ∧ Num vp o ∧ c.log.length < 900000 ∧
  ∀ H', Off (F.all r) H H' → ChipAt T.C_Chip H' r F (c.wipeR o).2 → Fin T (c.wipeR o).1 (Q .non) E H'
theorem ok_Chip_wipe (T : Txt K mg) : FO P w K mg base 4 T.a_Chip_wipe T.fd_Chip_wipe ["self", "block"] (spWipe T) := by
  have sc := sc_Chip_wipe
  refine T.F_Chip_wipe.okX sc (fun vs H Q E h => ?_) (fun cdv A outer s H vs Q E hr h => ?_)
  · obtain ⟨_, _, _, _, _, rfl, _⟩ := h
    rfl
  · obtain ⟨r, F, c, vp, o, rfl, hC, hn, hll, q⟩ := h
    refine ⟨_, (pss_cons (ps_expr (pe_methD (k := 3) (pv 0) (hr.mono (by decide)) (passAt (takes_of rfl rfl rfl rfl)) (pa_cons (pv 1) pa_nil)))
      (pss_cons (ps_expr (pe_methD0 (k := 2) (pv 0) (hr.mono (by decide)) (passAt (takes_of rfl rfl rfl rfl))))
      (pss_cons (ps_expr (pe_methD (k := 3) (pv 0) (hr.mono (by decide)) (passAt (takes_of rfl rfl rfl rfl)) (pa_cons (pv 1) pa_nil)))
      (pss_cons (ps_set (i := 2) sc.nd rfl (by first | exact Or.inl rfl | exact Or.inr rfl) (pe_methD (k := 1) (pv 0) (hr.mono (by decide)) (passAt (takes_of rfl rfl rfl rfl)) (pa_cons (pv 1) (pa_cons (pe_cmpR (op_uEq hr.units) (pe_ix ix_seq (pe_fld (pv 0) rfl) (pv 1) (fun _ _ => rfl)) (pe_fld (pv 0) rfl) (nomark _)) pa_nil))))
      (pss_cons (ps_expr (pe_bm PySem.F.plainAttrs_list PySem.F.slot_list_append PySem.F.type_list_append mt_append (pe_fld (pv 0) rfl) (pa_cons (pe_tup (pa_cons pe_str (pa_cons (pv 1) (pa_cons (pv 2) pa_nil)))) pa_nil)))
      (pss_cons (ps_if (pt_not (pt_truth (pv 2) (by intro _; rfl))) (pss_one (ps_raiseK rfl (takes_of rfl rfl rfl rfl) (pmk_oex T.xi_BlockFailed.o T.xi_BlockFailed.i T.xi_BlockFailed.t (ok_BlockFailed_init T) (hr.mono (by decide)) T.bd_BlockFailed_init .nil passE0 rfl T.g_BlockFailed (pa_cons (pv 1) pa_nil)))) pss_nil)
      (pss_cons (ps_augS (pe_fld (pv 0) rfl) (pv 1) get_list pe_int ip_add set_list)
      (pss_one (ps_for (passes_of rfl) rfl (pi_range1 (by rfl) T.b_range (pa_cons (pe_fld (pv 0) rfl) pa_nil)) (pg_name (i := 3) sc.nd rfl (by first | exact Or.inl rfl | exact Or.inr rfl)) (pss_one (ps_asg pe_non (pg_sub (pe_fld (pv 0) rfl) (pe_op op_uAdd (pe_op op_uMul (pv 1) (pe_fld (pv 0) rfl)) (pv 3)) set_list)))))))))))), ?_⟩
    unfold Cs.wipeR at q
    have hsz := hC.sz
    obtain ⟨hb1, hb2⟩ := hsz.b
    obtain ⟨hp1, hp2⟩ := hsz.p
    walk_at "begin"
    walk_at "go"
    refine x_mBlock hC ?_
    walk_at "go"
    refine x_block hC hn (fun hin => ?_) (fun hin => ?_)
    rotate_left
    · rw [if_pos hin] at q
      exact q H Off.refl hC
    rw [if_neg (by rw [hin]; decide)] at q
    obtain ⟨n, rfl, rfl, h0, h1⟩ := hn.of_inB hin
    dsimp only [Option.getD_some] at q
    walk_at "go"
    refine x_mPower hC (fun hd => ?_) (fun hd => ?_)
    rotate_left
    · rw [if_pos hd] at q
      exact q H Off.refl hC
    rw [if_neg (by rw [hd]; decide)] at q
    walk_at "go"
    refine x_mGoodB hC ?_
    walk_at "go"
    refine ⟨r, F, c, _, rfl, hC, h0, by omega, fun hg => ?_, fun hg d H1 hs hd1 hx => ?_⟩
    rotate_left
    · rw [if_pos hg] at q
      exact q H1 (Off.of hs) (hC.mono hs) d hx
    rw [if_neg (by rw [hg]; decide)] at q
    have ho := hC.obj
    unfold chipF at ho
    have hcl := hC.cl
    have z4 := hsz.clr
    walk_at "go"
    refine x_mGoes hC ?_
    walk_at "go"
    refine ⟨r, F, c, n, decide (c.clr.getD n.toNat 0 = c.m), rfl, hC, h0, by omega, fun H1 hO1 hC1 => ?_⟩
    obtain ⟨⟨n1, n2, n3, n4, n5, n6⟩, ⟨n7, n8, n9, n10, n11⟩, ⟨n12, n13, n14, n15⟩, ⟨n16, n17, n18⟩, ⟨n19, n20⟩, n21⟩ := hC.ne
    have hsz1 := hsz.said n.toNat (c.well n.toNat (decide (c.clr.getD n.toNat 0 = c.m))) ("wipe", n)
    have hlog := hC1.lg
    have o1' := hC1.obj
    have a1 := hC1.la
    have a2 := hC1.st
    have a3 := hC1.tr
    have a4 := hC1.cl
    have a5 := hC1.br
    obtain ⟨lvs, hlg, hla⟩ := hlog
    have hlv : lvs.length < sizeLine := Nat.lt_of_lt_of_le (m := 900000) (by rw [hla.1]; exact hll) (by decide)
    have hla1 : LogAll H1 lvs c.log := hla
    obtain ⟨w, hw⟩ : ∃ w, c.well n.toNat (decide (c.clr.getD n.toNat 0 = c.m)) = w := ⟨_, rfl⟩
    have qT : w = true → ∀ H', Off (F.all r) H H' → ChipAt T.C_Chip H' r F { c.said n.toNat true ("wipe", n) with clr := c.clr.set n.toNat (c.clr.getD n.toNat 0 + 1), stuff := blankN c.stuff (n.toNat * c.p.toNat) c.p.toNat } → Q .non H' := fun h => by
      rw [if_pos (hw.trans h)] at q
      exact q
    have qF : w = false → ∀ H', Off (F.all r) H H' → ChipAt T.C_Chip H' r F (c.said n.toNat false ("wipe", n)) → ∀ d, H' d = some (.xd [("block", .int n)]) → E (.ref T.C_BlockFailed) (some d) H' := fun h => by
      rw [if_neg (by rw [hw, h]; decide)] at q
      exact q
    clear q
    rw [hw] at o1' a1 a2 a3 a4 a5 hsz1 hC1 ⊢
    have o1 := o1'
    unfold chipF at o1
    have hoff1 := hO1
    have hO1 := hoff1
    clear hO1
    walk_at "go"
    rename_i qt H2 hqt hs2 hn2 H3 hO3 hI3
    have f1 : H3 r = some (.ins T.C_Chip F.dx (chipF F (c.tick n.toNat w))) := by walk_at "hp"
    have f2 : H3 F.la = some (.lst c.lasts) := by walk_at "hp"
    have f3 : H3 F.st = some (.lst c.stuff) := by walk_at "hp"
    have f4 : H3 F.cl = some (.lst (c.clr.map V.int)) := by walk_at "hp"
    have f6 : H3 F.tr = some (.lst ((c.tick n.toNat w).tried.map V.int)) := by walk_at "hp"
    have f7 : H3 F.br = some (.lst ((c.tick n.toNat w).broken.map V.bl)) := by walk_at "hp"
    have hoff13 : Off (F.all r) H1 H3 := by unfold CF.all; walk_at "off"
    have hoff3 := hoff1.trans hoff13
    have hq3 : H3 qt = some (.tup [.str "wipe", .int n, .bl w]) := hO3.at hn2 (nin_of (ne_of_none hlg hqt).symm)
    have hla3 : LogAll H3 (lvs ++ [.ref qt]) (c.log ++ [(("wipe" : Str), n, w)]) := ((hla1.mono (hC1.tups hoff13))).snoc ⟨qt, rfl, hq3⟩
    have hC3 : ChipAt T.C_Chip H3 r F (c.said n.toNat w ("wipe", n)) := ⟨f1, f2, f3, f6, f4, f7, ⟨_, hI3, hla3⟩, hC.nd, hsz1⟩
    refine x_join (fun σ' H' => σ' = [some (.ref r), some (.int n), some (.bl w), none] ∧ H' = H3 ∧ w = true) (fun R hR => ?_) ?_
    · walk_at "go"
      refine x_iteB (fun h => ?_) (fun h => ?_)
      · walk_at "go"
        exact hR _ _ ⟨rfl, rfl, h⟩
      · subst h
        walk_at "go"
        refine x_moK ⟨n, rfl, h0, by omega⟩ (fun d H4 hd hs hx => ?_) T.xi_BlockFailed.o T.nx_BlockFailed_block
        exact qF rfl H4 (hoff3.trans (Off.of hs)) (hC3.mono hs) d hx
    intro σ' H' ⟨hσ, hH, hwt⟩
    subst hσ hH hwt
    have f1' := f1
    unfold chipF at f1
    have hC3' := hC3
    clear hoff13
    walk_at "go"
    rename_i HC hOC hIC
    have e1 : HC r = some (.ins T.C_Chip F.dx (chipF F (c.tick n.toNat true))) := by unfold chipF; walk_at "hp"
    have e2 : HC F.la = some (.lst c.lasts) := by walk_at "hp"
    have e3 : HC F.st = some (.lst c.stuff) := by walk_at "hp"
    have e6 : HC F.tr = some (.lst ((c.tick n.toNat true).tried.map V.int)) := by walk_at "hp"
    have e7 : HC F.br = some (.lst ((c.tick n.toNat true).broken.map V.bl)) := by walk_at "hp"
    have e8 : HC F.lg = some (.lst (lvs ++ [.ref qt])) := by walk_at "hp"
    have e4 : HC F.cl = some (.lst ((c.clr.set n.toNat (c.clr.getD n.toNat 0 + 1)).map V.int)) := by
      rw [List.map_set]
      exact hIC
    have hoff3C : Off (F.all r) H' HC := by unfold CF.all; walk_at "off"
    have z5 := hsz.stuff
    rw [show (c.tick n.toNat true).p = c.p from rfl]
    refine x_frR1 (by omega) (fun i σ H4 => ∃ (v3 : Option V), σ = [some (.ref r), some (.int n), some (.bl true), v3] ∧ Off [F.st] HC H4 ∧ H4 F.st = some (.lst (blankN c.stuff (n.toNat * c.p.toNat) i)))
      ⟨_, rfl, Off.refl, e3⟩ ?_ ?_
    · intro i σ H4 hi ⟨v3, hσ, hO4, hI4⟩
      subst hσ
      have g1 : H4 r = some (.ins T.C_Chip F.dx (chipF F (c.tick n.toNat true))) := by walk_at "hp"
      unfold chipF at g1
      rw [show (c.tick n.toNat true).p = c.p from rfl] at g1
      have hnp : n * c.p ≤ (c.b - 1) * c.p := Int.mul_le_mul_of_nonneg_right h1 (by omega)
      have hnp0 : 0 ≤ n * c.p := Int.mul_nonneg h0 (by omega)
      have hbp : c.b * c.p = (c.b - 1) * c.p + c.p := by rw [Int.sub_mul, Int.one_mul]; omega
      have hbl : ((blankN c.stuff (n.toNat * c.p.toNat) i).length : Int) = c.b * c.p := by rw [blankN_len]; exact z5
      have en : (n * c.p + (0 + (i : Int))).toNat = n.toNat * c.p.toNat + i := by
        obtain ⟨a, rfl⟩ := Int.eq_ofNat_of_zero_le h0
        obtain ⟨b, hb⟩ := Int.eq_ofNat_of_zero_le (show 0 ≤ c.p by omega)
        rw [hb]
        simp only [Int.toNat_natCast]
        rw [Int.zero_add, ← Int.natCast_mul, ← Int.natCast_add, Int.toNat_natCast]
      walk_at "go"
      rename_i H5 hO5 hI5
      refine ⟨_, rfl, hO4.trans hO5, ?_⟩
      rw [en] at hI5
      exact hI5
    · intro σ H4 ⟨v3, hσ, hO4, hI4⟩
      subst hσ
      have g1 : H4 r = some (.ins T.C_Chip F.dx (chipF F (c.tick n.toNat true))) := by walk_at "hp"
      have g2 : H4 F.la = some (.lst c.lasts) := by walk_at "hp"
      have g4 : H4 F.cl = some (.lst ((c.clr.set n.toNat (c.clr.getD n.toNat 0 + 1)).map V.int)) := by walk_at "hp"
      have g6 : H4 F.tr = some (.lst ((c.tick n.toNat true).tried.map V.int)) := by walk_at "hp"
      have g7 : H4 F.br = some (.lst ((c.tick n.toNat true).broken.map V.bl)) := by walk_at "hp"
      have g8 : H4 F.lg = some (.lst (lvs ++ [.ref qt])) := by walk_at "hp"
      have hoffC4 : Off (F.all r) HC H4 := by unfold CF.all; exact Off.sub hO4 (by intro b hb; rw [List.mem_singleton] at hb; subst hb; simp)
      have hoff34 := hoff3C.trans hoffC4
      exact qT rfl H4 (hoff3.trans hoff34) ⟨g1, g2, hI4, g6, g4, g7, ⟨_, g8, hla3.mono (hC3'.tups hoff34)⟩, hC.nd, ⟨hsz1.b, hsz1.p, hsz1.m, hsz1.lasts, by show ((blankN _ _ _).length : Int) = _; rw [blankN_len]; exact hsz.stuff, hsz1.tried, by show ((c.clr.set _ _).length : Int) = _; rw [List.length_set]; exact hsz.clr, hsz1.broken, hsz1.lsc⟩⟩
theorem x_mWipe {T : Txt K mg} {H : Hp} {Q : VK} {E : XK} {σ : L2.St} {r : Addr} {F : CF} {c : Cs} {t : TA} (hC : ChipAt T.C_Chip H r F c) (h : t σ H fun vs H2 => spWipe T (.ref r :: vs) H2 Q E) : mtK P w K mg base (L2.CX P w) 4 "wipe" E σ t Q (.ref r) H :=
  x_mtK hC.obj ⟨⟨_, _, _, T.cl_Chip, T.m_Chip_wipe, ok_Chip_wipe T, T.bd_Chip_wipe⟩⟩ rfl h

/-! ### a new chip -/
def endF (n : Int) : List (Option Int × Option Int) → List V → Option (List V)
  | [], l => some l
  | (b, g) :: r, l => if inB b 0 (n - 1) = true then if inB g 0 1000000 = true then if l.getD (b.getD 0).toNat .non = .non then endF n r (l.set (b.getD 0).toNat (.int (g.getD 0))) else none else none else none
theorem endF_cons {n : Int} {b g : Option Int} {r : List (Option Int × Option Int)} {l : List V} : endF n ((b, g) :: r) l = if inB b 0 (n - 1) = true then if inB g 0 1000000 = true then if l.getD (b.getD 0).toNat .non = .non then endF n r (l.set (b.getD 0).toNat (.int (g.getD 0))) else none else none else none := rfl
def IllsAt (H : Hp) (v : V) (is : List (Option Int × Option Int)) : Prop := (v = .non ∧ is = []) ∨ ∃ q vs, v = .ref q ∧ (H q = some (.lst vs) ∨ H q = some (.tup vs)) ∧ vs.length = is.length ∧ ∀ (i : Nat) x e, vs[i]? = some x → is[i]? = some e → ∃ t vb vg, x = .ref t ∧ H t = some (.tup [vb, vg]) ∧ Num vb e.1 ∧ Num vg e.2
def spEndu (T : Txt K mg) : Sp := fun vs H Q E => ∃ (n : Int) (vi : V) (is : List (Option Int × Option Int)), vs = [.int n, vi] ∧ 2 ≤ n ∧ n ≤ 16 ∧ IllsAt H vi is ∧
  (∀ l, endF n is (List.replicate n.toNat .non) = some l → ∀ p H', Same H H' → H p = none → H' p = some (.lst l) → Q (.ref p) H') ∧
  (endF n is (List.replicate n.toNat .non) = none → ∀ H', Same H H' → E (.ref T.C_NoChip) none H')
theorem ok_endurance (T : Txt K mg) : FO P w K mg base 3 T.a_endurance T.fd_endurance ["blocks", "ills"] (spEndu T) := by
  have sc := sc_endurance
  refine T.F_endurance.okX sc (fun vs H Q E h => ?_) (fun cdv A outer s H vs Q E hr h => ?_)
  · obtain ⟨_, _, _, rfl, _⟩ := h
    rfl
  · obtain ⟨n, vi, is, rfl, h2, h16, hi, q1, q2⟩ := h
    refine ⟨_, (pss_cons (ps_set (i := 2) sc.nd rfl (by first | exact Or.inl rfl | exact Or.inr rfl) (pe_op op_uMul (pe_lst (pa_cons pe_non pa_nil)) (pv 0)))
      (pss_cons (ps_if (pt_cmpR op_uIs (pv 1) pe_non (nomark _)) (pss_one (ps_ret (pv 2))) pss_nil)
      (pss_cons (ps_for (passes_of rfl) rfl (pi_seq (pv 1)) (pg_tup (by rfl) (pgs_cons (pg_name (i := 3) sc.nd rfl (by first | exact Or.inl rfl | exact Or.inr rfl)) (pgs_cons (pg_name (i := 4) sc.nd rfl (by first | exact Or.inl rfl | exact Or.inr rfl)) pgs_nil))) (pss_cons (ps_if (PW.pt (pw_or (pt_not (pt_truth (pe_callS (ok_is_within T) (hr.mono (by decide)) (by rfl) T.g_is_within T.k_is_within T.bd_is_within (passAt (takes_of rfl rfl rfl rfl)) (pa_cons (pv 3) (pa_cons pe_int (pa_cons (pe_op op_sub (pv 0) pe_int) pa_nil)))) (by intro _; rfl))) (pw_or1 (pt_not (pt_truth (pe_callS (ok_is_within T) (hr.mono (by decide)) (by rfl) T.g_is_within T.k_is_within T.bd_is_within (passAt (takes_of rfl rfl rfl rfl)) (pa_cons (pv 4) (pa_cons pe_int (pa_cons (pe_glob rfl T.g_MOST T.r_MOST) pa_nil)))) (by intro _; rfl)))))) (pss_one (ps_raiseK rfl (takes_of rfl rfl rfl rfl) (pmk_ownK T.xc_NoChip T.g_NoChip rfl))) pss_nil)
      (pss_cons (ps_if (pt_cmpR op_uIsNot (pe_ix ix_seq (pv 2) (pv 3) (fun _ _ => rfl)) pe_non (nomark _)) (pss_one (ps_raiseK rfl (takes_of rfl rfl rfl rfl) (pmk_ownK T.xc_NoChip T.g_NoChip rfl))) pss_nil)
      (pss_one (ps_asg (pv 4) (pg_sub (pv 2) (pv 3) set_list))))))
      (pss_one (ps_ret (pv 2)))))), ?_⟩
    walk_at "begin"
    walk_at "go"
    rename_i p0 H0 hp0 hs0 hn0 p H1 hp hs1 hn1
    have hpH : H p = none := same_none hs0 hp
    have s01 : Same H H1 := hs0.trans hs1
    rcases hi with ⟨rfl, rfl⟩ | ⟨qi, vs, rfl, hq, hlen, hall⟩
    · walk_at "if"
      refine iteT ?_
      walk_at "go"
      exact q1 _ rfl p H1 s01 hpH hn1
    · walk_at "if"
      refine iteF ?_
      walk_at "go"
      refine x_seq ?_
      walk_at "go"
      obtain ⟨kq, hkq⟩ := sqB_of (K := K) hq
      refine x_frS (hkq _ s01) (fun i σ H2 => ∃ (v3 v4 : Option V) (l : List V), σ = [some (.int n), some (.ref qi), some (.ref p), v3, v4] ∧ Same H H2 ∧ H2 p = some (.lst l) ∧ (l.length : Int) = n ∧ (∀ x ∈ l, x = .non ∨ ∃ k : Int, x = .int k) ∧ endF n is (List.replicate n.toNat .non) = endF n (is.drop i) l)
        ⟨_, _, _, rfl, s01, hn1, by rw [List.length_replicate]; omega, fun x hx => .inl (List.eq_of_mem_replicate hx), rfl⟩ (fun i σ H2 _ ⟨_, _, _, _, hs2, _⟩ => hkq _ hs2) ?_ ?_
      · intro i x σ H2 hx ⟨v3, v4, l, hσ, hs2, hp2, hll, hlx, he⟩
        subst hσ
        have hil := (List.getElem?_eq_some_iff.mp hx).1
        obtain ⟨t, vb, vg, rfl, ht, hnb, hng⟩ := hall i x _ hx (List.getElem?_eq_getElem (hlen ▸ hil))
        have hil2 : i < is.length := hlen ▸ hil
        rw [List.drop_eq_getElem_cons hil2] at he
        generalize is[i] = e at hnb hng he
        obtain ⟨eb, eg⟩ := e
        dsimp only at hnb hng
        rw [endF_cons] at he
        have ht2 := hs2 _ _ ht
        refine x_gtup2 (SqT.of ht2) ?_
        dsimp only [List.set]
        walk_at "if"
        refine x_wNum hnb ?_
        walk_at "go"
        refine x_iteB (fun hb => ?_) (fun hb => ?_)
        rotate_left
        · rw [if_neg (by rw [hb]; decide)] at he
          walk_at "go"
          exact q2 he H2 hs2
        rw [if_pos hb] at he
        obtain ⟨b, rfl, rfl, hb1, hb2⟩ := hnb.of_inB hb
        walk_at "go"
        refine x_wNum hng ?_
        walk_at "go"
        refine x_iteB (fun hg => ?_) (fun hg => ?_)
        rotate_left
        · rw [if_neg (by rw [hg]; decide)] at he
          walk_at "go"
          exact q2 he H2 hs2
        rw [if_pos hg] at he
        obtain ⟨g, rfl, rfl, hg1, hg2⟩ := hng.of_inB hg
        dsimp only [Option.getD_some] at he
        walk_at "go"
        walk_at "if"
        refine x_iteD (fun hl => ?_) (fun hl => ?_)
        rotate_left
        · rw [if_neg hl] at he
          walk_at "go"
          exact q2 he H2 hs2
        rw [if_pos hl] at he
        walk_at "go"
        rename_i H3 hO3 hI3
        refine ⟨_, _, l.set b.toNat (.int g), rfl, Off.same1 hs2 hO3 hpH, hI3, by rw [List.length_set]; exact hll, fun x hx => ?_, he⟩
        rcases List.mem_or_eq_of_mem_set hx with hx | hx
        · exact hlx x hx
        · exact .inr ⟨g, hx⟩
      · intro σ H2 ⟨v3, v4, l, hσ, hs2, hp2, hll, hlx, he⟩
        subst hσ
        rw [hlen, List.drop_length] at he
        walk_at "go"
        exact q1 l he p H2 hs2 hpH hp2
theorem x_endu {T : Txt K mg} {H : Hp} {Q : VK} {E : XK} {n : Int} {vi : V} {is : List (Option Int × Option Int)} (hi : IllsAt H vi is)
  (q1 : ∀ l, endF n is (List.replicate n.toNat .non) = some l → ∀ p H', Same H H' → H p = none → H' p = some (.lst l) → Q (.ref p) H')
  (q2 : endF n is (List.replicate n.toNat .non) = none → ∀ H', Same H H' → E (.ref T.C_NoChip) none H') (h2 : 2 ≤ n ∧ n ≤ 16) : spEndu T [.int n, vi] H Q E := ⟨n, vi, is, rfl, h2.1, h2.2, hi, q1, q2⟩
theorem endF_len {n : Int} : ∀ {is : List (Option Int × Option Int)} {l l' : List V}, endF n is l = some l' → (∀ x ∈ l, x = .non ∨ ∃ k : Int, x = .int k) → l'.length = l.length ∧ ∀ x ∈ l', x = .non ∨ ∃ k : Int, x = .int k
  | [], l, l', h, hx => by cases h; exact ⟨rfl, hx⟩
  | (b, g) :: r, l, l', h, hx => by
    unfold endF at h
    split at h
    · split at h
      · split at h
        · obtain ⟨h1, h2⟩ := endF_len h (fun x m => by
            rcases List.mem_or_eq_of_mem_set m with m | m
            · exact hx x m
            · exact .inr ⟨_, m⟩)
          rw [List.length_set] at h1
          exact ⟨h1, h2⟩
        · cases h
      · cases h
    · cases h
def Cs.new (b p m : Int) (l : List V) : Cs := { b, p, m, lasts := l, stuff := List.replicate (b * p).toNat .non, tried := List.replicate b.toNat 0, clr := List.replicate b.toNat 0, broken := List.replicate b.toNat false, left := none, log := [] }
def chipGood (b p m : Option Int) : Bool := inB b 2 16 && inB p 1 16 && inB m 0 1000000
def spCInit (T : Txt K mg) : Sp := fun vs H Q E => ∃ (r dx : Addr) (vb vp vm vi : V) (b p m : Option Int) (is : List (Option Int × Option Int)), vs = [.ref r, vb, vp, vm, vi] ∧ H r = some (.ins T.C_Chip dx []) ∧ Num vb b ∧ Num vp p ∧ Num vm m ∧ IllsAt H vi is ∧
  (chipGood b p m = true → ∀ l, endF (b.getD 0) is (List.replicate (b.getD 0).toNat .non) = some l → ∀ F H', Off [r] H H' → (∀ a ∈ F.all r, a ≠ r → H a = none) → ChipAt T.C_Chip H' r F (Cs.new (b.getD 0) (p.getD 0) (m.getD 0) l) → Q .non H') ∧
  ((chipGood b p m = false ∨ endF (b.getD 0) is (List.replicate (b.getD 0).toNat .non) = none) → ∀ H', Off [r] H H' → E (.ref T.C_NoChip) none H')
theorem ok_Chip_init (T : Txt K mg) : FO P w K mg base 4 T.a_Chip_init T.fd_Chip_init ["self", "blocks", "pages", "most", "ills"] (spCInit T) := by
  have sc := sc_Chip_init
  refine T.F_Chip_init.okX sc (fun vs H Q E h => ?_) (fun cdv A outer s H vs Q E hr h => ?_)
  · obtain ⟨_, _, _, _, _, _, _, _, _, _, rfl, _⟩ := h
    rfl
  · obtain ⟨r, dx, vb, vp, vm, vi, b, p, m, is, rfl, hR, nb, np, nm, hi, q1, q2⟩ := h
    refine ⟨_, (pss_cons (ps_if (PW.pt (pw_or (pt_not (pt_truth (pe_callS (ok_is_within T) (hr.mono (by decide)) (by rfl) T.g_is_within T.k_is_within T.bd_is_within (passAt (takes_of rfl rfl rfl rfl)) (pa_cons (pv 1) (pa_cons pe_int (pa_cons (pe_glob rfl T.g_MANY T.r_MANY) pa_nil)))) (by intro _; rfl))) (pw_or (pt_not (pt_truth (pe_callS (ok_is_within T) (hr.mono (by decide)) (by rfl) T.g_is_within T.k_is_within T.bd_is_within (passAt (takes_of rfl rfl rfl rfl)) (pa_cons (pv 2) (pa_cons pe_int (pa_cons (pe_glob rfl T.g_MANY T.r_MANY) pa_nil)))) (by intro _; rfl))) (pw_or1 (pt_not (pt_truth (pe_callS (ok_is_within T) (hr.mono (by decide)) (by rfl) T.g_is_within T.k_is_within T.bd_is_within (passAt (takes_of rfl rfl rfl rfl)) (pa_cons (pv 3) (pa_cons pe_int (pa_cons (pe_glob rfl T.g_MOST T.r_MOST) pa_nil)))) (by intro _; rfl))))))) (pss_one (ps_raiseK rfl (takes_of rfl rfl rfl rfl) (pmk_ownK T.xc_NoChip T.g_NoChip rfl))) pss_nil)
      (pss_cons (ps_fld (pv 0) (pv 1) rfl)
      (pss_cons (ps_fld (pv 0) (pv 2) rfl)
      (pss_cons (ps_fld (pv 0) (pv 3) rfl)
      (pss_cons (ps_fld (pv 0) (pe_callS (ok_endurance T) (hr.mono (by decide)) (by rfl) T.g_endurance T.k_endurance T.bd_endurance (passAt (takes_of rfl rfl rfl rfl)) (pa_cons (pv 1) (pa_cons (pv 4) pa_nil))) rfl)
      (pss_cons (ps_fld (pv 0) (pe_op op_uMul (pe_lst (pa_cons pe_non pa_nil)) (pe_op op_uMul (pv 1) (pv 2))) rfl)
      (pss_cons (ps_fld (pv 0) (pe_op op_uMul (pe_lst (pa_cons pe_int pa_nil)) (pv 1)) rfl)
      (pss_cons (ps_fld (pv 0) (pe_op op_uMul (pe_lst (pa_cons pe_int pa_nil)) (pv 1)) rfl)
      (pss_cons (ps_fld (pv 0) (pe_op op_uMul (pe_lst (pa_cons pe_bl pa_nil)) (pv 1)) rfl)
      (pss_cons (ps_fld (pv 0) pe_non rfl)
      (pss_one (ps_fld (pv 0) (pe_lst pa_nil) rfl)))))))))))), ?_⟩
    walk_at "begin"
    walk_at "if"
    refine x_wNum nb ?_
    walk_at "go"
    refine x_iteB (fun hb => ?_) (fun hb => ?_)
    rotate_left
    · walk_at "go"
      exact q2 (.inl (by unfold chipGood; rw [hb]; rfl)) H Off.refl
    obtain ⟨b, rfl, rfl, hb1, hb2⟩ := nb.of_inB hb
    walk_at "go"
    refine x_wNum np ?_
    walk_at "go"
    refine x_iteB (fun hp => ?_) (fun hp => ?_)
    rotate_left
    · walk_at "go"
      exact q2 (.inl (by unfold chipGood; rw [hb, hp]; rfl)) H Off.refl
    obtain ⟨p, rfl, rfl, hp1, hp2⟩ := np.of_inB hp
    walk_at "go"
    refine x_wNum nm ?_
    walk_at "go"
    refine x_iteB (fun hm => ?_) (fun hm => ?_)
    rotate_left
    · walk_at "go"
      exact q2 (.inl (by unfold chipGood; rw [hb, hp, hm]; rfl)) H Off.refl
    obtain ⟨m, rfl, rfl, hm1, hm2⟩ := nm.of_inB hm
    have hgood : chipGood (some b) (some p) (some m) = true := by unfold chipGood; rw [hb, hp, hm]; rfl
    dsimp only [Option.getD_some] at q1 q2
    walk_at "go"
    rename_i H1 hO1 hI1 H2 hO2 hI2 H3 hO3 hI3
    have hO : Off [r] H H3 := (hO1.trans hO2).trans hO3
    have hi3 : IllsAt H3 vi is := by
      rcases hi with h | ⟨q, vs, e, hq, hl, hall⟩
      · exact .inl h
      · refine .inr ⟨q, vs, e, hq.imp (fun z => hO.lst hR z) (fun z => hO.tup hR z), hl, fun i x y h1 h2 => ?_⟩
        obtain ⟨t, vb, vg, e, ht, r⟩ := hall i x y h1 h2
        exact ⟨t, vb, vg, e, hO.tup hR ht, r⟩
    refine x_endu hi3 (fun l hl la H4 hs4 hla hlal => ?_) (fun hl H4 hs4 => q2 (.inr hl) H4 (hO.trans (Off.of hs4))) ⟨hb1, hb2⟩
    have hbp0 : 0 ≤ b * p := Int.mul_nonneg (by omega) (by omega)
    have hbp : b * p ≤ 16 * 16 := Int.mul_le_mul hb2 hp2 (by omega) (by decide)
    clear hO
    walk_at "go"
    rename_i H5 hO5 hI5 x1 G1 hx1 sx1 nx1 x2 G2 hx2 sx2 nx2 H6 hO6 hI6 y1 G3 hy1 sy1 ny1 y2 G4 hy2 sy2 ny2 H7 hO7 hI7 z1 G5 hz1 sz1 nz1 z2 G6 hz2 sz2 nz2 H8 hO8 hI8 w1 G7 hw1 sw1 nw1 w2 G8 hw2 sw2 nw2 H9 hO9 hI9 H10 hO10 hI10 u1 G9 hu1 su1 nu1 H11 hO11 hI11
    have d1 : r ≠ la := by walk_at "nn"
    have d2 : r ≠ x2 := by walk_at "nn"
    have d3 : la ≠ x2 := by walk_at "nn"
    have d4 : r ≠ y2 := by walk_at "nn"
    have d5 : la ≠ y2 := by walk_at "nn"
    have d6 : x2 ≠ y2 := by walk_at "nn"
    have d7 : r ≠ z2 := by walk_at "nn"
    have d8 : la ≠ z2 := by walk_at "nn"
    have d9 : x2 ≠ z2 := by walk_at "nn"
    have d10 : y2 ≠ z2 := by walk_at "nn"
    have d11 : r ≠ w2 := by walk_at "nn"
    have d12 : la ≠ w2 := by walk_at "nn"
    have d13 : x2 ≠ w2 := by walk_at "nn"
    have d14 : y2 ≠ w2 := by walk_at "nn"
    have d15 : z2 ≠ w2 := by walk_at "nn"
    have d16 : r ≠ u1 := by walk_at "nn"
    have d17 : la ≠ u1 := by walk_at "nn"
    have d18 : x2 ≠ u1 := by walk_at "nn"
    have d19 : y2 ≠ u1 := by walk_at "nn"
    have d20 : z2 ≠ u1 := by walk_at "nn"
    have d21 : w2 ≠ u1 := by walk_at "nn"
    have f1 : H11 la = some (.lst l) := by walk_at "hp"
    have f2 : H11 x2 = some (.lst (List.replicate (b * p).toNat .non)) := by walk_at "hp"
    have f3 : H11 y2 = some (.lst (List.replicate b.toNat (.int 0))) := by walk_at "hp"
    have f4 : H11 z2 = some (.lst (List.replicate b.toNat (.int 0))) := by walk_at "hp"
    have f5 : H11 w2 = some (.lst (List.replicate b.toNat (.bl false))) := by walk_at "hp"
    have f6 : H11 u1 = some (.lst []) := by walk_at "hp"
    have k1 : H la = none := by
      refine off_none (H1 := H3) ?_ hla d1.symm
      walk_at "off"
    have k2 : H x2 = none := by
      refine off_none (H1 := G1) ?_ hx2 d2.symm
      walk_at "off"
    have k3 : H y2 = none := by
      refine off_none (H1 := G3) ?_ hy2 d4.symm
      walk_at "off"
    have k4 : H z2 = none := by
      refine off_none (H1 := G5) ?_ hz2 d7.symm
      walk_at "off"
    have k5 : H w2 = none := by
      refine off_none (H1 := G7) ?_ hw2 d11.symm
      walk_at "off"
    have k6 : H u1 = none := by
      refine off_none (H1 := H10) ?_ hu1 d16.symm
      walk_at "off"
    have hoff : Off [r] H H11 := by walk_at "off"
    obtain ⟨e1, e2⟩ := endF_len hl (fun x hx => .inl (List.eq_of_mem_replicate hx))
    rw [List.length_replicate] at e1
    refine q1 hgood l hl ⟨dx, la, x2, y2, z2, w2, u1⟩ H11 hoff (fun a ha hne => ?_) ⟨hI11, f1, f2, ?_, ?_, ?_, ⟨[], f6, rfl, fun i v e h => by simp at h⟩, ?_, ⟨⟨hb1, hb2⟩, ⟨hp1, hp2⟩, ⟨hm1, hm2⟩, ?_, ?_, ?_, ?_, ?_, e2⟩⟩
    · unfold CF.all at ha
      simp only [List.mem_cons, List.not_mem_nil, or_false] at ha
      rcases ha with rfl | rfl | rfl | rfl | rfl | rfl | rfl
      · exact absurd rfl hne
      · exact k1
      · exact k2
      · exact k3
      · exact k4
      · exact k5
      · exact k6
    · show H11 y2 = some (.lst ((List.replicate _ _).map V.int))
      rw [List.map_replicate]
      exact f3
    · show H11 z2 = some (.lst ((List.replicate _ _).map V.int))
      rw [List.map_replicate]
      exact f4
    · show H11 w2 = some (.lst ((List.replicate _ _).map V.bl))
      rw [List.map_replicate]
      exact f5
    · show [r, la, x2, y2, z2, w2, u1].Nodup
      simp only [List.nodup_cons, List.mem_cons, List.not_mem_nil, or_false, not_or, not_false_eq_true, List.nodup_nil, and_true]
      exact ⟨⟨d1, d2, d4, d7, d11, d16⟩, ⟨d3, d5, d8, d12, d17⟩, ⟨d6, d9, d13, d18⟩, ⟨d10, d14, d19⟩, ⟨d15, d20⟩, d21⟩
    · show (l.length : Int) = b
      omega
    · show ((List.replicate _ _).length : Int) = b * p
      rw [List.length_replicate]
      omega
    · show ((List.replicate _ _).length : Int) = b
      rw [List.length_replicate]
      omega
    · show ((List.replicate _ _).length : Int) = b
      rw [List.length_replicate]
      omega
    · show ((List.replicate _ _).length : Int) = b
      rw [List.length_replicate]
      omega
theorem ChipAt.there {C : Addr} {H : Hp} {r : Addr} {F : CF} {c : Cs} (h : ChipAt C H r F c) : ∀ a ∈ F.all r, ∃ o, H a = some o ∧ ∀ xs, o ≠ .tup xs := fun a ha => by
  obtain ⟨vs, e7, _⟩ := h.lg
  unfold CF.all at ha
  simp only [List.mem_cons, List.not_mem_nil, or_false] at ha
  rcases ha with rfl | rfl | rfl | rfl | rfl | rfl | rfl
  · exact ⟨_, h.obj, fun _ z => by cases z⟩
  · exact ⟨_, h.la, fun _ z => by cases z⟩
  · exact ⟨_, h.st, fun _ z => by cases z⟩
  · exact ⟨_, h.tr, fun _ z => by cases z⟩
  · exact ⟨_, h.cl, fun _ z => by cases z⟩
  · exact ⟨_, h.br, fun _ z => by cases z⟩
  · exact ⟨_, e7, fun _ z => by cases z⟩
theorem ChipAt.fresh {C : Addr} {H : Hp} {r : Addr} {F : CF} {c : Cs} (h : ChipAt C H r F c) {q : Addr} (hq : H q = none) : q ∉ F.all r := fun m => by
  obtain ⟨o, e, _⟩ := h.there q m
  rw [hq] at e; cases e
theorem tups_of {S : List Addr} {H H' : Hp} (h : ∀ a ∈ S, ∃ o, H a = some o ∧ ∀ xs, o ≠ .tup xs) (s : Off S H H') : TupS H H' := fun b ys e => s b _ (fun m => by
  obtain ⟨o, e2, n⟩ := h b m
  rw [e] at e2
  cases e2
  exact n _ rfl) e
theorem endF_nil {n : Int} {l : List V} : endF n [] l = some l := rfl
theorem x_cinit {T : Txt K mg} {H H1 : Hp} {Q : VK} {E : XK} {x dx : Addr} {b p : Int} (hB : 2 ≤ b ∧ b ≤ 16) (hP : 1 ≤ p ∧ p ≤ 16) (hx : H x = none) (hs : Same H H1) (hn : H1 x = some (.ins T.C_Chip dx []))
    (q : ∀ F H', Same H H' → (∀ a ∈ F.all x, H a = none) → ChipAt T.C_Chip H' x F (Cs.new b p 1000000 (List.replicate b.toNat .non)) → Q .non H') : spCInit T [.ref x, .int b, .int p, .int 1000000, .non] H1 Q E := by
  refine ⟨x, dx, _, _, _, _, some b, some p, some 1000000, [], rfl, hn, .int b, .int p, .int 1000000, .inl ⟨rfl, rfl⟩, fun hg l hl F H' hO hF hC => ?_, fun hno => ?_⟩
  · cases hl
    refine q F H' (Off.same1 hs hO hx) (fun a ha => ?_) hC
    by_cases e : a = x
    · rw [e]; exact hx
    · exact same_none hs (hF a ha e)
  · exfalso
    rcases hno with hno | hno
    · unfold chipGood inB at hno
      have e1 : decide (2 ≤ b ∧ b ≤ 16) = true := decide_eq_true hB
      have e2 : decide (1 ≤ p ∧ p ≤ 16) = true := decide_eq_true hP
      dsimp only at hno
      rw [e1, e2] at hno
      cases hno
    · cases hno

/-! ### pairs of numbers as data -/
def prD (e : Int × Int) : PyData := .tuple [.int e.1, .int e.2]
theorem prD_sh {k : Nat} (e : Int × Int) : Sh (k + 1) (prD e) := Sh.tup fun d h => by
  simp only [List.mem_cons, List.not_mem_nil, or_false] at h
  rcases h with rfl | rfl <;> exact Sh.int
theorem _root_.Kit.PairL.dp {K : PySem.W.Frag} {H : Hp} {q : Addr} {ws : List V} {is : List (Int × Int)} (h : PairL H ws is) (hq : H q = some (.lst ws)) : Dp K H (.ref q) (.list (is.map prD)) := by
  refine .lst (SqL.of hq) (dpAll_of (by rw [List.length_map]; exact h.1) fun i v d h1 h2 => ?_)
  rw [List.getElem?_map] at h2
  cases e : is[i]? with
  | none => rw [e] at h2; simp at h2
  | some t =>
    rw [e] at h2
    simp at h2
    subst h2
    obtain ⟨a, rfl, ha⟩ := h.2 i v t h1 e
    exact .tup (SqT.of ha) (.cons (.int _) (.cons (.int _) .nil))
theorem prsSh {k : Nat} {is : List (Int × Int)} : Sh (k + 2) (.list (is.map prD)) := Sh.list (k := k + 1) fun d h => by
  obtain ⟨e, _, rfl⟩ := List.mem_map.mp h
  exact prD_sh e

/-! ### blocks that fail, told as pairs -/
def setI (is : List (Int × Int)) (l : List V) : List V := is.foldl (fun l e => l.set e.1.toNat (.int e.2)) l
def illF (is : List (Int × Int)) : List (Option Int × Option Int) := is.map fun e => (some e.1, some e.2)
theorem endF_ok {B : Int} : ∀ {is : List (Int × Int)} {l : List V}, (∀ e ∈ is, 0 ≤ e.1 ∧ e.1 < B ∧ 0 ≤ e.2 ∧ e.2 ≤ 1000000) → is.Pairwise (fun a b => a.1 ≠ b.1) → (∀ e ∈ is, l.getD e.1.toNat .non = .non) → endF B (illF is) l = some (setI is l)
  | [], l, _, _, _ => rfl
  | e :: is, l, hr, hp, hn => by
    have h0 := hr e List.mem_cons_self
    have hp2 := List.pairwise_cons.mp hp
    show endF B ((some e.1, some e.2) :: illF is) l = _
    rw [endF_cons, if_pos (show inB (some e.1) 0 (B - 1) = true from decide_eq_true ⟨h0.1, by omega⟩), if_pos (show inB (some e.2) 0 1000000 = true from decide_eq_true ⟨h0.2.2.1, h0.2.2.2⟩)]
    simp only [Option.getD_some]
    rw [if_pos (hn e List.mem_cons_self)]
    refine endF_ok (fun x hx => hr x (List.mem_cons_of_mem _ hx)) hp2.2 (fun x hx => ?_)
    have hx0 := hr x (List.mem_cons_of_mem _ hx)
    have hne := hp2.1 x hx
    rw [List.getD_eq_getElem?_getD, List.getElem?_set_ne (by omega), ← List.getD_eq_getElem?_getD]
    exact hn x (List.mem_cons_of_mem _ hx)
def lastsI (B : Int) (is : List (Int × Int)) : List V := setI is (List.replicate B.toNat .non)
theorem lastsI_snoc {B : Int} {is : List (Int × Int)} {e : Int × Int} : lastsI B (is ++ [e]) = (lastsI B is).set e.1.toNat (.int e.2) := by
  unfold lastsI setI
  rw [List.foldl_append]
  rfl
theorem setI_len {is : List (Int × Int)} : ∀ {l : List V}, (setI is l).length = l.length := by
  unfold setI
  induction is with
  | nil => intro l; rfl
  | cons e is ih =>
    intro l
    rw [List.foldl_cons, ih, List.length_set]
theorem lastsI_len {B : Int} {is : List (Int × Int)} : (lastsI B is).length = B.toNat := by
  unfold lastsI
  rw [setI_len, List.length_replicate]
/-- pairs that may be told to a chip -/
def IllOk (B : Int) (is : List (Int × Int)) : Prop := (∀ e ∈ is, 0 ≤ e.1 ∧ e.1 < B ∧ 0 ≤ e.2 ∧ e.2 ≤ 1000000) ∧ is.Pairwise (fun a b => a.1 ≠ b.1)
theorem _root_.Kit.PairL.ills {H : Hp} {ws : List V} {is : List (Int × Int)} {q : Addr} (h : PairL H ws is) (hq : H q = some (.lst ws) ∨ H q = some (.tup ws)) : IllsAt H (.ref q) (illF is) := by
  refine .inr ⟨q, ws, rfl, hq, by unfold illF; rw [List.length_map]; exact h.1, fun i x e h1 h2 => ?_⟩
  unfold illF at h2
  rw [List.getElem?_map] at h2
  cases he : is[i]? with
  | none => rw [he] at h2; simp at h2
  | some y =>
    rw [he] at h2
    simp at h2
    subst h2
    obtain ⟨t, hx, ht⟩ := h.2 i x y h1 he
    exact ⟨t, _, _, hx, ht, .int _, .int _⟩
theorem x_cinitI {T : Txt K mg} {H H1 : Hp} {Q : VK} {E : XK} {x dx : Addr} {B P mo : Int} {vi : V} {is : List (Int × Int)} (hB : 2 ≤ B ∧ B ≤ 16) (hP : 1 ≤ P ∧ P ≤ 16) (hm : 0 ≤ mo ∧ mo ≤ 1000000) (hx : H x = none) (hs : Same H H1) (hn : H1 x = some (.ins T.C_Chip dx []))
    (hi : IllsAt H1 vi (illF is)) (ok : IllOk B is) (q : ∀ F H', Same H H' → (∀ a ∈ F.all x, H a = none) → ChipAt T.C_Chip H' x F (Cs.new B P mo (lastsI B is)) → Q .non H') : spCInit T [.ref x, .int B, .int P, .int mo, vi] H1 Q E := by
  have e1 : decide (2 ≤ B ∧ B ≤ 16) = true := decide_eq_true hB
  have e2 : decide (1 ≤ P ∧ P ≤ 16) = true := decide_eq_true hP
  have e3 : decide (0 ≤ mo ∧ mo ≤ 1000000) = true := decide_eq_true hm
  have eE : endF B (illF is) (List.replicate B.toNat .non) = some (lastsI B is) := endF_ok ok.1 ok.2 fun e he => by
    rw [List.getD_eq_getElem?_getD, List.getElem?_replicate]
    split <;> rfl
  refine ⟨x, dx, _, _, _, _, some B, some P, some mo, illF is, rfl, hn, .int B, .int P, .int mo, hi, fun hgd l hl F H' hO hF hC => ?_, fun hno => ?_⟩
  · simp only [Option.getD_some] at hl hC
    rw [eE] at hl
    cases hl
    refine q F H' (Off.same1 hs hO hx) (fun a ha => ?_) hC
    by_cases e : a = x
    · rw [e]; exact hx
    · exact same_none hs (hF a ha e)
  · exfalso
    rcases hno with hno | hno
    · unfold chipGood inB at hno
      dsimp only at hno
      rw [e1, e2, e3] at hno
      cases hno
    · simp only [Option.getD_some] at hno
      rw [eE] at hno
      cases hno

def spCleared (T : Txt K mg) : Sp := fun vs H Q E => ∃ (r : Addr) (F : CF) (c : Cs) (vp : V) (o : Option Int), vs = [.ref r, vp] ∧ ChipAt T.C_Chip H r F c ∧ Num vp o ∧ (inB o 0 (c.b - 1) = false → E (.ref T.C_NoPlace) none H) ∧
  (inB o 0 (c.b - 1) = true → Q (.int (c.clr.getD (o.getD 0).toNat 0)) H)
theorem ok_Chip_cleared (T : Txt K mg) : FO P w K mg base 4 T.a_Chip_cleared T.fd_Chip_cleared ["self", "block"] (spCleared T) := by
  have sc := sc_Chip_cleared
  refine T.F_Chip_cleared.okX sc (fun vs H Q E h => ?_) (fun cdv A outer s H vs Q E hr h => ?_)
  · obtain ⟨_, _, _, _, _, rfl, _⟩ := h
    rfl
  · obtain ⟨r, F, c, vp, o, rfl, hC, hn, q1, q3⟩ := h
    refine ⟨_, (pss_cons (ps_expr (pe_methD (k := 3) (pv 0) (hr.mono (by decide)) (passAt (takes_of rfl rfl rfl rfl)) (pa_cons (pv 1) pa_nil)))
      (pss_one (ps_ret (pe_ix ix_seq (pe_fld (pv 0) rfl) (pv 1) (fun _ _ => rfl))))), ?_⟩
    walk_at "begin"
    walk_at "go"
    refine x_mBlock hC ?_
    walk_at "go"
    refine x_block hC hn (fun hin => ?_) (fun hin => q1 hin)
    have q3' := q3 hin
    obtain ⟨n, rfl, rfl, h0, h1⟩ := hn.of_inB hin
    have ho := hC.obj
    unfold chipF at ho
    have hcl := hC.cl
    have z4 := hC.sz.clr
    walk_at "go"
    exact q3'
theorem x_mCleared {T : Txt K mg} {H : Hp} {Q : VK} {E : XK} {σ : L2.St} {r : Addr} {F : CF} {c : Cs} {t : TA} (hC : ChipAt T.C_Chip H r F c) (h : t σ H fun vs H2 => spCleared T (.ref r :: vs) H2 Q E) : mtK P w K mg base (L2.CX P w) 4 "cleared" E σ t Q (.ref r) H :=
  x_mtK hC.obj ⟨⟨_, _, _, T.cl_Chip, T.m_Chip_cleared, ok_Chip_cleared T, T.bd_Chip_cleared⟩⟩ rfl h
theorem x_cleared {T : Txt K mg} {H : Hp} {Q : VK} {E : XK} {r : Addr} {F : CF} {c : Cs} {n : Int} (hC : ChipAt T.C_Chip H r F c) (q : Q (.int (c.clr.getD n.toNat 0)) H) (h : 0 ≤ n ∧ n < c.b) : spCleared T [.ref r, .int n] H Q E :=
  ⟨r, F, c, _, some n, rfl, hC, .int n, (fun z => by simp [inB] at z; omega), fun _ => q⟩

def spFailed (T : Txt K mg) : Sp := fun vs H Q E => ∃ (r : Addr) (F : CF) (c : Cs) (vp : V) (o : Option Int), vs = [.ref r, vp] ∧ ChipAt T.C_Chip H r F c ∧ Num vp o ∧ (inB o 0 (c.b - 1) = false → E (.ref T.C_NoPlace) none H) ∧
  (inB o 0 (c.b - 1) = true → Q (.bl (c.broken.getD (o.getD 0).toNat false)) H)
theorem ok_Chip_failed (T : Txt K mg) : FO P w K mg base 4 T.a_Chip_failed T.fd_Chip_failed ["self", "block"] (spFailed T) := by
  have sc := sc_Chip_failed
  refine T.F_Chip_failed.okX sc (fun vs H Q E h => ?_) (fun cdv A outer s H vs Q E hr h => ?_)
  · obtain ⟨_, _, _, _, _, rfl, _⟩ := h
    rfl
  · obtain ⟨r, F, c, vp, o, rfl, hC, hn, q1, q3⟩ := h
    refine ⟨_, (pss_cons (ps_expr (pe_methD (k := 3) (pv 0) (hr.mono (by decide)) (passAt (takes_of rfl rfl rfl rfl)) (pa_cons (pv 1) pa_nil)))
      (pss_one (ps_ret (pe_ix ix_seq (pe_fld (pv 0) rfl) (pv 1) (fun _ _ => rfl))))), ?_⟩
    walk_at "begin"
    walk_at "go"
    refine x_mBlock hC ?_
    walk_at "go"
    refine x_block hC hn (fun hin => ?_) (fun hin => q1 hin)
    have q3' := q3 hin
    obtain ⟨n, rfl, rfl, h0, h1⟩ := hn.of_inB hin
    have ho := hC.obj
    unfold chipF at ho
    have hcl := hC.br
    have z4 := hC.sz.broken
    walk_at "go"
    exact q3'
theorem x_mFailed {T : Txt K mg} {H : Hp} {Q : VK} {E : XK} {σ : L2.St} {r : Addr} {F : CF} {c : Cs} {t : TA} (hC : ChipAt T.C_Chip H r F c) (h : t σ H fun vs H2 => spFailed T (.ref r :: vs) H2 Q E) : mtK P w K mg base (L2.CX P w) 4 "failed" E σ t Q (.ref r) H :=
  x_mtK hC.obj ⟨⟨_, _, _, T.cl_Chip, T.m_Chip_failed, ok_Chip_failed T, T.bd_Chip_failed⟩⟩ rfl h
theorem x_failed {T : Txt K mg} {H : Hp} {Q : VK} {E : XK} {r : Addr} {F : CF} {c : Cs} {n : Int} (hC : ChipAt T.C_Chip H r F c) (q : Q (.bl (c.broken.getD n.toNat false)) H) (h : 0 ≤ n ∧ n < c.b) : spFailed T [.ref r, .int n] H Q E :=
  ⟨r, F, c, _, some n, rfl, hC, .int n, (fun z => by simp [inB] at z; omega), fun _ => q⟩

/-! ### marks -/
def mk (st nm : Int) : Int := st * 128 + nm
theorem mk_or {st nm : Int} (h : 0 ≤ st) (h0 : 0 ≤ nm) (h1 : nm < 128) : Builtin.bitOr (st * 2 ^ (7 : Int).toNat) nm = mk st nm := by
  have e := Bits.bitOr_join' (a := nm) (b := st) (k := 7) h0 (by omega) h
  rw [show (7 : Int).toNat = 7 from rfl, e]
  unfold mk
  omega
theorem mk_and {x : Int} (h : 0 ≤ x) : Builtin.bitAnd x 127 = x % 128 := Bits.bitAnd_mask 7 h
def spMark : Sp := fun vs H Q _ => ∃ st nm : Int, vs = [.int st, .int nm] ∧ (0 ≤ st ∧ st < 10 ^ 45 ∧ 0 ≤ nm ∧ nm < 128) ∧ Q (.int (mk st nm)) H
theorem x_mark {H : Hp} {Q : VK} {E : XK} {st nm : Int} (q : Q (.int (mk st nm)) H) (h : 0 ≤ st ∧ st < 10 ^ 45 ∧ 0 ≤ nm ∧ nm < 128) : spMark [.int st, .int nm] H Q E := ⟨st, nm, rfl, h, q⟩
local macro_rules | `(tactic| walk_at "u") => `(tactic| ((with_reducible refine x_mark ?_ ?hs); (try (case hs => walk_at "side"))))
theorem ok_mark_of (T : Txt K mg) : FO P w K mg base 1 T.a_mark_of T.fd_mark_of ["stamp", "name"] spMark := by
  have sc := sc_mark_of
  refine T.F_mark_of.okX sc (fun vs H Q E h => ?_) (fun cdv A outer s H vs Q E hr h => ?_)
  · obtain ⟨_, _, rfl, _⟩ := h
    rfl
  · obtain ⟨st, nm, rfl, ⟨h1, h2, h3, h4⟩, q⟩ := h
    have hc : CShl st 7 := shl_ok (n := 200) (by
      have : (2:Nat) ^ 200 = 1606938044258990275541962092341162602522202993782792835301376 := by decide
      omega) (by decide)
    refine ⟨_, (pss_one (ps_ret (pe_op op_or (pe_op op_uShl (pv 0) pe_int) (pv 1)))), ?_⟩
    walk_at "begin"
    walk_at "go"
    rw [mk_or h1 h3 h4]
    exact q

/-! ### dicts from numbers to numbers -/
def kvI (ps : List (Int × Int)) : List (L2.Key × V) := ps.map fun e => (.inl e.1, .int e.2)
def getI (ps : List (Int × Int)) (n : Int) : Option Int := (ps.find? fun e => decide (e.1 = n)).map (·.2)
def putI (ps : List (Int × Int)) (n x : Int) : List (Int × Int) := if (ps.any fun e => decide (e.1 = n)) = true then ps.map (fun e => if e.1 = n then (e.1, x) else e) else ps ++ [(n, x)]
def dropI (ps : List (Int × Int)) (n : Int) : List (Int × Int) := ps.filter fun e => decide (e.1 ≠ n)
theorem keyI {m n : Int} : decide ((Sum.inl m : L2.Key) = .inl n) = decide (m = n) := by
  rw [decide_eq_decide]
  exact ⟨fun z => by injection z, fun z => by rw [z]⟩
theorem valV_I {n : Int} : ∀ {ps : List (Int × Int)}, valV (kvI ps) (.inl n) = (getI ps n).map V.int
  | [] => rfl
  | e :: ps => by
    by_cases h : e.1 = n
    · have e1 : valV (kvI (e :: ps)) (.inl n) = some (.int e.2) := valV_pos (p := ((Sum.inl e.1 : L2.Key), V.int e.2)) (by rw [h])
      rw [e1]
      unfold getI
      rw [List.find?_cons, decide_eq_true h]
      rfl
    · have e1 : valV (kvI (e :: ps)) (.inl n) = valV (kvI ps) (.inl n) := valV_neg (p := ((Sum.inl e.1 : L2.Key), V.int e.2)) (fun z => h (Sum.inl.inj z))
      rw [e1, valV_I]
      unfold getI
      rw [List.find?_cons, decide_eq_false h]
theorem putK_I {ps : List (Int × Int)} {n x : Int} : putK (kvI ps) (.inl n) (.int x) = kvI (putI ps n x) := by
  unfold putK putI
  have e : ((kvI ps).any fun kv => decide (kv.1 = .inl n)) = ps.any fun e => decide (e.1 = n) := by
    unfold kvI
    rw [List.any_map]
    exact congrArg (ps.any ·) (funext fun e => keyI)
  rw [e]
  split
  · unfold kvI
    rw [List.map_map, List.map_map]
    refine List.map_congr_left fun e _ => ?_
    show (if (Sum.inl e.1 : L2.Key) = .inl n then _ else _) = _
    by_cases h : e.1 = n
    · rw [if_pos (by rw [h])]
      simp [h]
    · rw [if_neg (fun z => h (by injection z))]
      simp [h]
  · unfold kvI
    rw [List.map_append]
    rfl
theorem dropK_I {ps : List (Int × Int)} {n : Int} : dropK (kvI ps) (.inl n) = kvI (dropI ps n) := by
  unfold dropK dropI kvI
  rw [List.filter_map]
  refine congrArg _ (List.filter_congr fun e _ => ?_)
  show decide ((Sum.inl e.1 : L2.Key) ≠ .inl n) = decide (e.1 ≠ n)
  rw [decide_eq_decide]
  exact ⟨fun z y => z (by rw [y]), fun z y => z (by injection y)⟩
theorem kvI_len {ps : List (Int × Int)} : (kvI ps).length = ps.length := List.length_map _
theorem getI_mem {ps : List (Int × Int)} {n x : Int} (h : getI ps n = some x) : (n, x) ∈ ps := by
  unfold getI at h
  cases hf : ps.find? (fun e => decide (e.1 = n)) with
  | none => rw [hf] at h; simp at h
  | some e =>
    rw [hf] at h
    simp at h
    have h1 := List.mem_of_find?_eq_some hf
    have h2 : e.1 = n := by simpa using List.find?_some hf
    rw [← h2, ← h]
    exact h1
/-! ### the book -/
structure Bk where
  b : Int
  p : Int
  wh : List (Int × Int)
  nm : List V
  live : List Int
  fil : List Int
  born : List Int
  stamp : Int
structure BF where
  dx : Addr
  wh : Addr
  nm : Addr
  lv : Addr
  fl : Addr
  bn : Addr
def bookF (F : BF) (k : Bk) : List (Str × V) := [("blocks", .int k.b), ("pages", .int k.p), ("where", .ref F.wh), ("names", .ref F.nm), ("live", .ref F.lv), ("filled", .ref F.fl), ("born", .ref F.bn), ("stamp", .int k.stamp)]
def BF.all (F : BF) (r : Addr) : List Addr := [r, F.wh, F.nm, F.lv, F.fl, F.bn]
/-- what a book is like -/
structure BkOk (k : Bk) : Prop where
  b : 2 ≤ k.b ∧ k.b ≤ 16
  p : 1 ≤ k.p ∧ k.p ≤ 16
  nm : (k.nm.length : Int) = k.b * k.p
  live : (k.live.length : Int) = k.b
  fil : (k.fil.length : Int) = k.b
  born : (k.born.length : Int) = k.b
  wh : ∀ e ∈ k.wh, 0 ≤ e.2 ∧ e.2 < k.b * k.p
  whl : k.wh.length ≤ 900
  st : 0 ≤ k.stamp ∧ k.stamp < 10 ^ 40
structure BookAt (C : Addr) (H : Hp) (r : Addr) (F : BF) (k : Bk) : Prop where
  obj : H r = some (.ins C F.dx (bookF F k))
  wh : H F.wh = some (.dK (kvI k.wh))
  nm : H F.nm = some (.lst k.nm)
  lv : H F.lv = some (.lst (k.live.map V.int))
  fl : H F.fl = some (.lst (k.fil.map V.int))
  bn : H F.bn = some (.lst (k.born.map V.int))
  nd : (BF.all F r).Nodup
theorem BookAt.mono {C : Addr} {H H' : Hp} {r : Addr} {F : BF} {k : Bk} (s : Same H H') (h : BookAt C H r F k) : BookAt C H' r F k := ⟨s _ _ h.obj, s _ _ h.wh, s _ _ h.nm, s _ _ h.lv, s _ _ h.fl, s _ _ h.bn, h.nd⟩
theorem BookAt.off {C : Addr} {H H' : Hp} {r : Addr} {F : BF} {k : Bk} {S : List Addr} (h : BookAt C H r F k) (s : Off S H H') (n : ∀ a, a ∈ F.all r → a ∉ S) : BookAt C H' r F k := by
  unfold BF.all at n
  exact ⟨s.at h.obj (n _ (by simp)), s.at h.wh (n _ (by simp)), s.at h.nm (n _ (by simp)), s.at h.lv (n _ (by simp)), s.at h.fl (n _ (by simp)), s.at h.bn (n _ (by simp)), h.nd⟩
theorem BookAt.ne {C : Addr} {H : Hp} {r : Addr} {F : BF} {k : Bk} (h : BookAt C H r F k) : (r ≠ F.wh ∧ r ≠ F.nm ∧ r ≠ F.lv ∧ r ≠ F.fl ∧ r ≠ F.bn) ∧ (F.wh ≠ F.nm ∧ F.wh ≠ F.lv ∧ F.wh ≠ F.fl ∧ F.wh ≠ F.bn) ∧ (F.nm ≠ F.lv ∧ F.nm ≠ F.fl ∧ F.nm ≠ F.bn) ∧ (F.lv ≠ F.fl ∧ F.lv ≠ F.bn) ∧ F.fl ≠ F.bn := by
  have d := h.nd
  unfold BF.all at d
  simp only [List.nodup_cons, List.mem_cons, List.not_mem_nil, or_false, not_or, not_false_eq_true, List.nodup_nil, and_true] at d
  exact d
theorem BookAt.there {C : Addr} {H : Hp} {r : Addr} {F : BF} {k : Bk} (h : BookAt C H r F k) : ∀ a ∈ F.all r, ∃ o, H a = some o ∧ ∀ xs, o ≠ .tup xs := fun a ha => by
  unfold BF.all at ha
  simp only [List.mem_cons, List.not_mem_nil, or_false] at ha
  rcases ha with rfl | rfl | rfl | rfl | rfl | rfl
  · exact ⟨_, h.obj, fun _ z => by cases z⟩
  · exact ⟨_, h.wh, fun _ z => by cases z⟩
  · exact ⟨_, h.nm, fun _ z => by cases z⟩
  · exact ⟨_, h.lv, fun _ z => by cases z⟩
  · exact ⟨_, h.fl, fun _ z => by cases z⟩
  · exact ⟨_, h.bn, fun _ z => by cases z⟩
theorem BookAt.fresh {C : Addr} {H : Hp} {r : Addr} {F : BF} {k : Bk} (h : BookAt C H r F k) {q : Addr} (hq : H q = none) : q ∉ F.all r := fun m => by
  obtain ⟨o, e, _⟩ := h.there q m
  rw [hq] at e
  cases e
def Bk.new (b p : Int) : Bk := { b, p, wh := [], nm := List.replicate (b * p).toNat .non, live := List.replicate b.toNat 0, fil := List.replicate b.toNat 0, born := List.replicate b.toNat 0, stamp := 1 }
theorem Bk.new_ok {b p : Int} (hb : 2 ≤ b ∧ b ≤ 16) (hp : 1 ≤ p ∧ p ≤ 16) : BkOk (Bk.new b p) := by
  have hbp : 0 ≤ b * p := Int.mul_nonneg (by omega) (by omega)
  refine ⟨hb, hp, ?_, ?_, ?_, ?_, (fun e h => by cases h), (by show 0 ≤ 900; decide), ⟨(by show (0:Int) ≤ 1; decide), (by show (1:Int) < 10 ^ 40; decide)⟩⟩
  · show ((List.replicate _ _).length : Int) = b * p
    rw [List.length_replicate]; omega
  · show ((List.replicate _ _).length : Int) = b
    rw [List.length_replicate]; omega
  · show ((List.replicate _ _).length : Int) = b
    rw [List.length_replicate]; omega
  · show ((List.replicate _ _).length : Int) = b
    rw [List.length_replicate]; omega

local macro_rules | `(tactic| walk_at "u") => `(tactic| ((with_reducible refine' x_appO ?ho ?_ ?hl); (case ho => walk_at "hp"); (try (case hl => walk_at "side")); intro H1 hO hI; (try dsimp only)))
def spBInit (T : Txt K mg) : Sp := fun vs H Q _ => ∃ (r dx : Addr) (b p : Int), vs = [.ref r, .int b, .int p] ∧ H r = some (.ins T.C_Book dx []) ∧ (2 ≤ b ∧ b ≤ 16) ∧ (1 ≤ p ∧ p ≤ 16) ∧
  ∀ F H', Off [r] H H' → (∀ a ∈ F.all r, a ≠ r → H a = none) → BookAt T.C_Book H' r F (Bk.new b p) → Q .non H'
theorem ok_Book_init (T : Txt K mg) : FO P w K mg base 1 T.a_Book_init T.fd_Book_init ["self", "blocks", "pages"] (spBInit T) := by
  have sc := sc_Book_init
  refine T.F_Book_init.okX sc (fun vs H Q E h => ?_) (fun cdv A outer s H vs Q E hr h => ?_)
  · obtain ⟨_, _, _, _, rfl, _⟩ := h
    rfl
  · obtain ⟨r, dx, b, p, rfl, hR, hb, hp, q⟩ := h
    refine ⟨_, (pss_cons (ps_fld (pv 0) (pv 1) rfl)
      (pss_cons (ps_fld (pv 0) (pv 2) rfl)
      (pss_cons (ps_fld (pv 0) pe_dnewK rfl)
      (pss_cons (ps_fld (pv 0) (pe_op op_uMul (pe_lst (pa_cons pe_non pa_nil)) (pe_op op_uMul (pv 1) (pv 2))) rfl)
      (pss_cons (ps_fld (pv 0) (pe_op op_uMul (pe_lst (pa_cons pe_int pa_nil)) (pv 1)) rfl)
      (pss_cons (ps_fld (pv 0) (pe_op op_uMul (pe_lst (pa_cons pe_int pa_nil)) (pv 1)) rfl)
      (pss_cons (ps_fld (pv 0) (pe_op op_uMul (pe_lst (pa_cons pe_int pa_nil)) (pv 1)) rfl)
      (pss_one (ps_fld (pv 0) pe_int rfl))))))))), ?_⟩
    have hBP0 : 0 ≤ b * p := Int.mul_nonneg (by omega) (by omega)
    have hBP : b * p ≤ 16 * 16 := Int.mul_le_mul hb.2 hp.2 (by omega) (by decide)
    walk_at "begin"
    walk_at "go"
    rename_i H1 hO1 hI1 H2 hO2 hI2 wh W1 hwh sw nw H3 hO3 hI3 x1 A1 hx1 sx1 nx1 nm A2 hnm snm nnm H4 hO4 hI4 y1 A3 hy1 sy1 ny1 lw A4 hlv slv nlv H5 hO5 hI5 z1 A5 hz1 sz1 nz1 fl A6 hfl sfl nfl H6 hO6 hI6 w1 A7 hw1 sw1 nw1 bn A8 hbn sbn nbn H7 hO7 hI7 H8 hO8 hI8
    have c1 : r ≠ wh := ne_of_none hI2 hwh
    have c2 : r ≠ nm := ne_of_none (sx1 _ _ hI3) hnm
    have c3 : r ≠ lw := ne_of_none (sy1 _ _ hI4) hlv
    have c4 : r ≠ fl := ne_of_none (sz1 _ _ hI5) hfl
    have c5 : r ≠ bn := ne_of_none (sw1 _ _ hI6) hbn
    have c6 : wh ≠ nm := by walk_at "nn"
    have c7 : wh ≠ lw := by walk_at "nn"
    have c8 : wh ≠ fl := by walk_at "nn"
    have c9 : wh ≠ bn := by walk_at "nn"
    have c10 : nm ≠ lw := by walk_at "nn"
    have c11 : nm ≠ fl := by walk_at "nn"
    have c12 : nm ≠ bn := by walk_at "nn"
    have c13 : lw ≠ fl := by walk_at "nn"
    have c14 : lw ≠ bn := by walk_at "nn"
    have c15 : fl ≠ bn := by walk_at "nn"
    have f1 : H8 wh = some (.dK []) := by walk_at "hp"
    have f2 : H8 nm = some (.lst (List.replicate (b * p).toNat .non)) := by walk_at "hp"
    have f3 : H8 lw = some (.lst (List.replicate b.toNat (.int 0))) := by walk_at "hp"
    have f4 : H8 fl = some (.lst (List.replicate b.toNat (.int 0))) := by walk_at "hp"
    have f5 : H8 bn = some (.lst (List.replicate b.toNat (.int 0))) := by walk_at "hp"
    have o1 : Off [r] H H2 := hO1.trans hO2
    have o3 : Off [r] H H3 := (o1.trans (Off.of sw)).trans hO3
    have o4 : Off [r] H H4 := (o3.trans (Off.of (sx1.trans snm))).trans hO4
    have o5 : Off [r] H H5 := (o4.trans (Off.of (sy1.trans slv))).trans hO5
    have o6 : Off [r] H H6 := (o5.trans (Off.of (sz1.trans sfl))).trans hO6
    have o8 : Off [r] H H8 := ((o6.trans (Off.of (sw1.trans sbn))).trans hO7).trans hO8
    refine q ⟨dx, wh, nm, lw, fl, bn⟩ H8 o8 (fun a ha hne => ?_) ⟨hI8, f1, f2, ?_, ?_, ?_, ?_⟩
    · unfold BF.all at ha
      simp only [List.mem_cons, List.not_mem_nil, or_false] at ha
      rcases ha with rfl | rfl | rfl | rfl | rfl | rfl
      · exact absurd rfl hne
      · exact off_none o1 hwh hne
      · exact off_none o3 (same_none sx1 hnm) hne
      · exact off_none o4 (same_none sy1 hlv) hne
      · exact off_none o5 (same_none sz1 hfl) hne
      · exact off_none o6 (same_none sw1 hbn) hne
    · show H8 lw = some (.lst ((List.replicate _ _).map V.int))
      rw [List.map_replicate]; exact f3
    · show H8 fl = some (.lst ((List.replicate _ _).map V.int))
      rw [List.map_replicate]; exact f4
    · show H8 bn = some (.lst ((List.replicate _ _).map V.int))
      rw [List.map_replicate]; exact f5
    · unfold BF.all
      simp only [List.nodup_cons, List.mem_cons, List.not_mem_nil, or_false, not_or, not_false_eq_true, List.nodup_nil, and_true]
      exact ⟨⟨c1, c2, c3, c4, c5⟩, ⟨c6, c7, c8, c9⟩, ⟨c10, c11, c12⟩, ⟨c13, c14⟩, c15⟩
def Bk.drop (k : Bk) (n : Int) : Bk := match getI k.wh n with
  | none => k
  | some x => { k with wh := dropI k.wh n, nm := k.nm.set x.toNat .non, live := k.live.set (x / k.p).toNat (k.live.getD (x / k.p).toNat 0 - 1) }
def spForget (T : Txt K mg) : Sp := fun vs H Q _ => ∃ (r : Addr) (F : BF) (k : Bk) (n : Int), vs = [.ref r, .int n] ∧ BookAt T.C_Book H r F k ∧ BkOk k ∧
  ∀ H', Off (F.all r) H H' → BookAt T.C_Book H' r F (k.drop n) → Q .non H'
theorem ok_Book_forget (T : Txt K mg) : FO P w K mg base 1 T.a_Book_forget T.fd_Book_forget ["self", "name"] (spForget T) := by
  have sc := sc_Book_forget
  refine T.F_Book_forget.okX sc (fun vs H Q E h => ?_) (fun cdv A outer s H vs Q E hr h => ?_)
  · obtain ⟨_, _, _, _, rfl, _⟩ := h
    rfl
  · obtain ⟨r, F, k, n, rfl, hB, hk, q⟩ := h
    refine ⟨_, (pss_one (ps_if (pt_cmp (pc_din (hu_of hr) (pv 1) (pe_fld (pv 0) rfl))) (pss_cons (ps_set (i := 2) sc.nd rfl (by first | exact Or.inl rfl | exact Or.inr rfl) (pe_dpop1 (pe_fld (pv 0) rfl) (pv 1) ⟨rfl, rfl, rfl, rfl⟩))
      (pss_cons (ps_asg pe_non (pg_sub (pe_fld (pv 0) rfl) (pv 2) set_list))
      (pss_one (ps_augS (pe_fld (pv 0) rfl) (pe_op op_fdivW (pv 2) (pe_fld (pv 0) rfl)) get_list pe_int ip_sub set_list)))) pss_nil)), ?_⟩
    obtain ⟨⟨n1, n2, n3, n4, n5⟩, ⟨n6, n7, n8, n9⟩, ⟨n10, n11, n12⟩, ⟨n13, n14⟩, n15⟩ := hB.ne
    have ho := hB.obj
    have a1 := hB.wh
    have a2 := hB.nm
    have a3 := hB.lv
    have a4 := hB.fl
    have a5 := hB.bn
    have z1 := hk.nm
    have z2 := hk.live
    have z3 := hk.p
    have z4 := hk.b
    unfold bookF at ho
    unfold Bk.drop at q
    walk_at "begin"
    walk_at "go"
    rw [valV_I]
    cases hg : getI k.wh n with
    | none =>
      rw [hg] at q
      walk_at "go"
      exact q H Off.refl hB
    | some x =>
      rw [hg] at q
      have hx := hk.wh _ (getI_mem hg)
      dsimp only at hx
      have hb0 : 0 ≤ x / k.p := Int.ediv_nonneg hx.1 (by omega)
      have hb1 : x / k.p < k.b := Int.ediv_lt_of_lt_mul (by omega) hx.2
      refine iteT ?_
      walk_at "go"
      refine x_dpp1I (v := .int x) (by walk_at "hp") (by rw [valV_I, hg]; rfl) (fun H1 hO1 hI1 => ?_)
      rw [dropK_I] at hI1
      walk_at "go"
      rename_i H2 hO2 hI2 H3 hO3 hI3
      have f0 : H3 r = some (.ins T.C_Book F.dx (bookF F k)) := by unfold bookF; walk_at "hp"
      have f1 : H3 F.wh = some (.dK (kvI (dropI k.wh n))) := by walk_at "hp"
      have f2 : H3 F.nm = some (.lst (k.nm.set x.toNat .non)) := by walk_at "hp"
      have f4 : H3 F.fl = some (.lst (k.fil.map V.int)) := by walk_at "hp"
      have f5 : H3 F.bn = some (.lst (k.born.map V.int)) := by walk_at "hp"
      have one : ∀ {y : Addr} {Ha Hb : Hp}, y ∈ F.all r → Off [y] Ha Hb → Off (F.all r) Ha Hb := fun hy h => h.sub fun b hb => by rw [List.mem_singleton.mp hb]; exact hy
      exact q H3 (((one (by simp [BF.all]) hO1).trans (one (by simp [BF.all]) hO2)).trans (one (by simp [BF.all]) hO3)) ⟨f0, f1, f2, by rw [List.map_set]; exact hI3, f4, f5, hB.nd⟩
theorem BkOk.drop {k : Bk} (h : BkOk k) (n : Int) : BkOk (k.drop n) := by
  unfold Bk.drop
  split
  · exact h
  · exact ⟨h.b, h.p, by show ((k.nm.set _ _).length : Int) = _; rw [List.length_set]; exact h.nm, by show ((k.live.set _ _).length : Int) = _; rw [List.length_set]; exact h.live, h.fil, h.born, fun e he => h.wh e (List.mem_filter.mp he).1, Nat.le_trans (List.length_filter_le _ _) h.whl, h.st⟩
theorem drop_b {k : Bk} {n : Int} : (k.drop n).b = k.b := by unfold Bk.drop; split <;> rfl
theorem drop_p {k : Bk} {n : Int} : (k.drop n).p = k.p := by unfold Bk.drop; split <;> rfl
theorem drop_whl {k : Bk} {n : Int} : (k.drop n).wh.length ≤ k.wh.length := by
  unfold Bk.drop
  split
  · exact Nat.le_refl _
  · exact List.length_filter_le _ _
theorem drop_st {k : Bk} {n : Int} : (k.drop n).stamp = k.stamp := by unfold Bk.drop; split <;> rfl
theorem x_mForget {T : Txt K mg} {H : Hp} {Q : VK} {E : XK} {σ : L2.St} {r : Addr} {F : BF} {k : Bk} {t : TA} (hB : BookAt T.C_Book H r F k) (h : t σ H fun vs H2 => spForget T (.ref r :: vs) H2 Q E) : mtK P w K mg base (L2.CX P w) 1 "forget" E σ t Q (.ref r) H :=
  x_mtK hB.obj ⟨⟨_, _, _, T.cl_Book, T.m_Book_forget, ok_Book_forget T, T.bd_Book_forget⟩⟩ rfl h
def Bk.note (k : Bk) (pg n : Int) : Bk :=
  { (k.drop n) with born := (if (k.drop n).fil.getD (pg / k.p).toNat 0 = 0 then (k.drop n).born.set (pg / k.p).toNat (k.drop n).stamp else (k.drop n).born), fil := (k.drop n).fil.set (pg / k.p).toNat ((k.drop n).fil.getD (pg / k.p).toNat 0 + 1), live := (k.drop n).live.set (pg / k.p).toNat ((k.drop n).live.getD (pg / k.p).toNat 0 + 1), nm := (k.drop n).nm.set pg.toNat (.int n), wh := putI (k.drop n).wh n pg, stamp := (k.drop n).stamp + 1 }
def spNote (T : Txt K mg) : Sp := fun vs H Q _ => ∃ (r : Addr) (F : BF) (k : Bk) (pg n : Int), vs = [.ref r, .int pg, .int n] ∧ BookAt T.C_Book H r F k ∧ BkOk k ∧ 0 ≤ pg ∧ pg < k.b * k.p ∧
  ∀ H', Off (F.all r) H H' → BookAt T.C_Book H' r F (k.note pg n) → Q .non H'
theorem ok_Book_note (T : Txt K mg) : FO P w K mg base 2 T.a_Book_note T.fd_Book_note ["self", "page", "name"] (spNote T) := by
  have sc := sc_Book_note
  refine T.F_Book_note.okX sc (fun vs H Q E h => ?_) (fun cdv A outer s H vs Q E hr h => ?_)
  · obtain ⟨_, _, _, _, _, rfl, _⟩ := h
    rfl
  · obtain ⟨r, F, k, pg, n, rfl, hB, hk, h0, h1, q⟩ := h
    refine ⟨_, (pss_cons (ps_expr (pe_methD (k := 1) (pv 0) (hr.mono (by decide)) (passAt (takes_of rfl rfl rfl rfl)) (pa_cons (pv 2) pa_nil)))
      (pss_cons (ps_set (i := 3) sc.nd rfl (by first | exact Or.inl rfl | exact Or.inr rfl) (pe_op op_fdivW (pv 1) (pe_fld (pv 0) rfl)))
      (pss_cons (ps_if (pt_cmpR (op_uEq hr.units) (pe_ix ix_seq (pe_fld (pv 0) rfl) (pv 3) (fun _ _ => rfl)) pe_int (nomark _)) (pss_one (ps_asg (pe_fld (pv 0) rfl) (pg_sub (pe_fld (pv 0) rfl) (pv 3) set_list))) pss_nil)
      (pss_cons (ps_augS (pe_fld (pv 0) rfl) (pv 3) get_list pe_int ip_add set_list)
      (pss_cons (ps_augS (pe_fld (pv 0) rfl) (pv 3) get_list pe_int ip_add set_list)
      (pss_cons (ps_asg (pv 2) (pg_sub (pe_fld (pv 0) rfl) (pv 1) set_list))
      (pss_cons (ps_dput (hu_of hr) (pe_fld (pv 0) rfl) (pv 2) (pv 1) rfl)
      (pss_one (ps_fldaug (pv 0) pe_int in_add))))))))), ?_⟩
    obtain ⟨⟨n1, n2, n3, n4, n5⟩, ⟨n6, n7, n8, n9⟩, ⟨n10, n11, n12⟩, ⟨n13, n14⟩, n15⟩ := hB.ne
    have hk1 := hk.drop n
    have hpb := hk.p
    have hbb := hk.b
    have hb0 : 0 ≤ pg / k.p := Int.ediv_nonneg h0 (by omega)
    have hb1 : pg / k.p < k.b := Int.ediv_lt_of_lt_mul (by omega) h1
    have eb := drop_b (k := k) (n := n)
    have ep := drop_p (k := k) (n := n)
    unfold Bk.note at q
    walk_at "begin"
    walk_at "go"
    refine x_mForget hB ?_
    walk_at "go"
    refine ⟨r, F, k, n, rfl, hB, hk, fun H1 hO1 hB1 => ?_⟩
    generalize k.drop n = k1 at q hk1 hB1 eb ep
    have ho := hB1.obj
    have a1 := hB1.wh
    have a2 := hB1.nm
    have a3 := hB1.lv
    have a4 := hB1.fl
    have a5 := hB1.bn
    have z1 := hk1.nm
    have z2 := hk1.live
    have z3 := hk1.fil
    have z4 := hk1.born
    have z5 := hk1.whl
    rw [eb] at z1 z2 z3 z4
    rw [ep] at z1
    unfold bookF at ho
    rw [ep] at ho
    have hO1' := hO1
    clear hO1
    walk_at "go"
    refine x_join (fun σ' H2 => σ' = [some (.ref r), some (.int pg), some (.int n), some (.int (pg / k.p))] ∧ Off [F.bn] H1 H2 ∧ H2 F.bn = some (.lst ((if k1.fil.getD (pg / k.p).toNat 0 = 0 then k1.born.set (pg / k.p).toNat k1.stamp else k1.born).map V.int))) (fun R hR => ?_) ?_
    · walk_at "go"
      refine x_iteD (fun h => ?_) (fun h => ?_)
      · walk_at "go"
        rename_i H2 hO2 hI2
        exact hR _ _ ⟨rfl, hO2, by rw [if_pos h, List.map_set]; exact hI2⟩
      · walk_at "go"
        exact hR _ _ ⟨rfl, Off.refl, by rw [if_neg h]; exact a5⟩
    intro σ' H2 ⟨hσ, hO2, hI2⟩
    subst hσ
    walk_at "go"
    rename_i H3 hO3 hI3 H4 hO4 hI4 H5 hO5 hI5
    have e1 : H5 F.wh = some (.dK (kvI k1.wh)) := by walk_at "hp"
    refine x_dpI (kvs' := kvI (putI k1.wh n pg)) (by exact e1) putK_I (fun H6 hO6 hI6 => ?_) (by rw [kvI_len]; omega)
    walk_at "go"
    have e2 : H6 r = some (.ins T.C_Book F.dx [("blocks", .int k1.b), ("pages", .int k.p), ("where", .ref F.wh), ("names", .ref F.nm), ("live", .ref F.lv), ("filled", .ref F.fl), ("born", .ref F.bn), ("stamp", .int k1.stamp)]) := by walk_at "hp"
    refine x_faK e2 rfl ?_ T.cl_Book T.na_Book_stamp
    walk_at "go"
    refine x_f3O (fs' := [("blocks", .int k1.b), ("pages", .int k.p), ("where", .ref F.wh), ("names", .ref F.nm), ("live", .ref F.lv), ("filled", .ref F.fl), ("born", .ref F.bn), ("stamp", .int (k1.stamp + 1))]) e2 rfl (fun H7 hO7 hI7 => ?_) (Nat.le_of_ble_eq_true rfl)
    have f1 : H7 F.wh = some (.dK (kvI (putI k1.wh n pg))) := by walk_at "hp"
    have f2 : H7 F.nm = some (.lst (k1.nm.set pg.toNat (.int n))) := by walk_at "hp"
    have f3 : H7 F.lv = some (.lst ((k1.live.set (pg / k.p).toNat (k1.live.getD (pg / k.p).toNat 0 + 1)).map V.int)) := by rw [List.map_set]; walk_at "hp"
    have f4 : H7 F.fl = some (.lst ((k1.fil.set (pg / k.p).toNat (k1.fil.getD (pg / k.p).toNat 0 + 1)).map V.int)) := by rw [List.map_set]; walk_at "hp"
    have f5 : H7 F.bn = some (.lst ((if k1.fil.getD (pg / k.p).toNat 0 = 0 then k1.born.set (pg / k.p).toNat k1.stamp else k1.born).map V.int)) := by walk_at "hp"
    have one : ∀ {y : Addr} {Ha Hb : Hp}, y ∈ F.all r → Off [y] Ha Hb → Off (F.all r) Ha Hb := fun hy h => h.sub fun b hb => by rw [List.mem_singleton.mp hb]; exact hy
    refine q H7 (((((hO1'.trans (one (by simp [BF.all]) hO2)).trans (one (by simp [BF.all]) hO3)).trans (one (by simp [BF.all]) hO4)).trans (one (by simp [BF.all]) hO5)).trans ((one (by simp [BF.all]) hO6).trans (one (by simp [BF.all]) hO7))) ⟨?_, f1, f2, f3, f4, f5, hB.nd⟩
    rw [← ep] at hI7
    exact hI7
theorem putI_mem {ps : List (Int × Int)} {n x : Int} {e : Int × Int} (h : e ∈ putI ps n x) : e ∈ ps ∨ e.2 = x := by
  unfold putI at h
  split at h
  · obtain ⟨y, hy, rfl⟩ := List.mem_map.mp h
    split
    · exact .inr rfl
    · exact .inl hy
  · rcases List.mem_append.mp h with h | h
    · exact .inl h
    · rw [List.mem_singleton.mp h]; exact .inr rfl
theorem putI_len {ps : List (Int × Int)} {n x : Int} : (putI ps n x).length ≤ ps.length + 1 := by
  unfold putI
  split
  · rw [List.length_map]; exact Nat.le_succ _
  · rw [List.length_append]; exact Nat.le_refl _
theorem BkOk.note {k : Bk} (h : BkOk k) {pg n : Int} (h0 : 0 ≤ pg) (h1 : pg < k.b * k.p) (hl : k.wh.length < 900) (hs : k.stamp + 1 < 10 ^ 40) : BkOk (k.note pg n) := by
  have d := h.drop n
  have eb := drop_b (k := k) (n := n)
  have ep := drop_p (k := k) (n := n)
  have es := drop_st (k := k) (n := n)
  have el := drop_whl (k := k) (n := n)
  unfold Bk.note
  refine ⟨d.b, d.p, ?_, ?_, ?_, ?_, fun e he => ?_, ?_, ?_⟩
  · show (((k.drop n).nm.set _ _).length : Int) = _; rw [List.length_set]; exact d.nm
  · show (((k.drop n).live.set _ _).length : Int) = _; rw [List.length_set]; exact d.live
  · show (((k.drop n).fil.set _ _).length : Int) = _; rw [List.length_set]; exact d.fil
  · dsimp only
    split
    · rw [List.length_set]; exact d.born
    · exact d.born
  · rcases putI_mem he with he | he
    · exact d.wh e he
    · show 0 ≤ e.2 ∧ e.2 < (k.drop n).b * (k.drop n).p
      rw [he, eb, ep]; exact ⟨h0, h1⟩
  · exact Nat.le_trans putI_len (by omega)
  · show 0 ≤ (k.drop n).stamp + 1 ∧ (k.drop n).stamp + 1 < 10 ^ 40
    rw [es]
    have := h.st
    exact ⟨by omega, hs⟩
theorem x_mNote {T : Txt K mg} {H : Hp} {Q : VK} {E : XK} {σ : L2.St} {r : Addr} {F : BF} {k : Bk} {t : TA} (hB : BookAt T.C_Book H r F k) (h : t σ H fun vs H2 => spNote T (.ref r :: vs) H2 Q E) : mtK P w K mg base (L2.CX P w) 2 "note" E σ t Q (.ref r) H :=
  x_mtK hB.obj ⟨⟨_, _, _, T.cl_Book, T.m_Book_note, ok_Book_note T, T.bd_Book_note⟩⟩ rfl h
local macro_rules | `(tactic| walk_at "u") => `(tactic| ((with_reducible refine x_mark ?_ ?hs); (try (case hs => walk_at "side"))))
def spBMark (T : Txt K mg) : Sp := fun vs H Q _ => ∃ (r : Addr) (F : BF) (k : Bk) (n : Int), vs = [.ref r, .int n] ∧ BookAt T.C_Book H r F k ∧ BkOk k ∧ 0 ≤ n ∧ n < 128 ∧ Q (.int (mk k.stamp n)) H
theorem ok_Book_mark (T : Txt K mg) : FO P w K mg base 2 T.a_Book_mark T.fd_Book_mark ["self", "name"] (spBMark T) := by
  have sc := sc_Book_mark
  refine T.F_Book_mark.okX sc (fun vs H Q E h => ?_) (fun cdv A outer s H vs Q E hr h => ?_)
  · obtain ⟨_, _, _, _, rfl, _⟩ := h
    rfl
  · obtain ⟨r, F, k, n, rfl, hB, hk, h0, h1, q⟩ := h
    refine ⟨_, (pss_one (ps_ret (pe_callS (ok_mark_of T) (hr.mono (by decide)) (by rfl) T.g_mark_of T.k_mark_of T.bd_mark_of (passAt (takes_of rfl rfl rfl rfl)) (pa_cons (pe_fld (pv 0) rfl) (pa_cons (pv 1) pa_nil))))), ?_⟩
    have ho := hB.obj
    unfold bookF at ho
    have hst := hk.st
    have hs : 0 ≤ k.stamp ∧ k.stamp < 10 ^ 45 ∧ 0 ≤ n ∧ n < 128 := ⟨hst.1, Int.lt_trans hst.2 (by decide), h0, h1⟩
    walk_at "begin"
    walk_at "go"
    exact q
theorem x_mMark {T : Txt K mg} {H : Hp} {Q : VK} {E : XK} {σ : L2.St} {r : Addr} {F : BF} {k : Bk} {t : TA} (hB : BookAt T.C_Book H r F k) (h : t σ H fun vs H2 => spBMark T (.ref r :: vs) H2 Q E) : mtK P w K mg base (L2.CX P w) 2 "mark" E σ t Q (.ref r) H :=
  x_mtK hB.obj ⟨⟨_, _, _, T.cl_Book, T.m_Book_mark, ok_Book_mark T, T.bd_Book_mark⟩⟩ rfl h

/-! ### terms -/
def TmAt (C : Addr) (H : Hp) (r : Addr) (b p s h i z : Int) : Prop := ∃ dx, H r = some (.ins C dx [("blocks", .int b), ("pages", .int p), ("sheets", .int s), ("share", .int h), ("ill", .int i), ("spread", .int z)])
def spClosed (T : Txt K mg) : Sp := fun vs H Q _ => ∃ (r dx : Addr) (b i : Int) (fs : List (Str × V)), vs = [.ref r] ∧ H r = some (.ins T.C_Terms dx fs) ∧ fs.lookup ("blocks" : Str) = some (V.int b) ∧ fs.lookup ("ill" : Str) = some (V.int i) ∧ Q (.int (b - 1 - i)) H
theorem ok_Terms_closed (T : Txt K mg) : FO P w K mg base 1 T.a_Terms_closed T.fd_Terms_closed ["self"] (spClosed T) := by
  have sc := sc_Terms_closed
  refine T.F_Terms_closed.okX sc (fun vs H Q E h => ?_) (fun cdv A outer s H vs Q E hr h => ?_)
  · obtain ⟨_, _, _, _, _, rfl, _⟩ := h
    rfl
  · obtain ⟨r, dx, b, i, fs, rfl, hR, h1, h2, q⟩ := h
    refine ⟨_, (pss_one (ps_ret (pe_op op_sub (pe_op op_sub (pe_fld (pv 0) rfl) pe_int) (pe_fld (pv 0) rfl)))), ?_⟩
    walk_at "begin"
    walk_at "go"
    refine x_fldK hR h1 ?_ T.cl_Terms T.na_Terms_blocks
    walk_at "go"
    refine x_fldK hR h2 ?_ T.cl_Terms T.na_Terms_ill
    walk_at "go"
    exact q
theorem MO_closed (T : Txt K mg) : MO P w K mg base (L2.CX P w) 1 T.C_Terms "closed" (spClosed T) := ⟨⟨_, _, _, T.cl_Terms, T.m_Terms_closed, ok_Terms_closed T, T.bd_Terms_closed⟩⟩
/-- whether the six are tmGood terms -/
def tmGood (b p s h i z : Option Int) : Bool := inB b 2 16 && inB p 1 16 && inB s 1 64 && inB i 0 (b.getD 0 - 2) && inB z 1 1000000 && inB h 1 ((b.getD 0 - 1 - i.getD 0) * p.getD 0 - 2)
def spTInit (T : Txt K mg) : Sp := fun vs H Q E => ∃ (r dx : Addr) (vb vp vs' vh vi vz : V) (b p s h i z : Option Int), vs = [.ref r, vb, vp, vs', vh, vi, vz] ∧ H r = some (.ins T.C_Terms dx []) ∧
  Num vb b ∧ Num vp p ∧ Num vs' s ∧ Num vh h ∧ Num vi i ∧ Num vz z ∧ ((tmGood b p s h i z = true ∧ ∀ H', Off [r] H H' → TmAt T.C_Terms H' r (b.getD 0) (p.getD 0) (s.getD 0) (h.getD 0) (i.getD 0) (z.getD 0) → Q .non H') ∨
    (tmGood b p s h i z = false ∧ ∀ H', Off [r] H H' → E (.ref T.C_NoTerms) none H'))
theorem ok_Terms_init (T : Txt K mg) : FO P w K mg base 3 T.a_Terms_init T.fd_Terms_init ["self", "blocks", "pages", "sheets", "share", "ill", "spread"] (spTInit T) := by
  have sc := sc_Terms_init
  refine T.F_Terms_init.okX sc (fun vs H Q E h => ?_) (fun cdv A outer s H vs Q E hr h => ?_)
  · obtain ⟨_, _, _, _, _, _, _, _, _, _, _, _, _, _, rfl, _⟩ := h
    rfl
  · obtain ⟨r, dx, vb, vp, vs', vh, vi, vz, b, p, s, h, i, z, rfl, hR, nb, np, ns, nh, ni, nz, q⟩ := h
    refine ⟨_, (pss_cons (ps_if (PW.pt (pw_or (pt_not (pt_truth (pe_callS (ok_is_within T) (hr.mono (by decide)) (by rfl) T.g_is_within T.k_is_within T.bd_is_within (passAt (takes_of rfl rfl rfl rfl)) (pa_cons (pv 1) (pa_cons pe_int (pa_cons pe_int pa_nil)))) (by intro _; rfl))) (pw_or (pt_not (pt_truth (pe_callS (ok_is_within T) (hr.mono (by decide)) (by rfl) T.g_is_within T.k_is_within T.bd_is_within (passAt (takes_of rfl rfl rfl rfl)) (pa_cons (pv 2) (pa_cons pe_int (pa_cons pe_int pa_nil)))) (by intro _; rfl))) (pw_or1 (pt_not (pt_truth (pe_callS (ok_is_within T) (hr.mono (by decide)) (by rfl) T.g_is_within T.k_is_within T.bd_is_within (passAt (takes_of rfl rfl rfl rfl)) (pa_cons (pv 3) (pa_cons pe_int (pa_cons pe_int pa_nil)))) (by intro _; rfl))))))) (pss_one (ps_raiseK rfl (takes_of rfl rfl rfl rfl) (pmk_ownK T.xc_NoTerms T.g_NoTerms rfl))) pss_nil)
      (pss_cons (ps_if (PW.pt (pw_or (pt_not (pt_truth (pe_callS (ok_is_within T) (hr.mono (by decide)) (by rfl) T.g_is_within T.k_is_within T.bd_is_within (passAt (takes_of rfl rfl rfl rfl)) (pa_cons (pv 5) (pa_cons pe_int (pa_cons (pe_op op_sub (pv 1) pe_int) pa_nil)))) (by intro _; rfl))) (pw_or1 (pt_not (pt_truth (pe_callS (ok_is_within T) (hr.mono (by decide)) (by rfl) T.g_is_within T.k_is_within T.bd_is_within (passAt (takes_of rfl rfl rfl rfl)) (pa_cons (pv 6) (pa_cons pe_int (pa_cons pe_int pa_nil)))) (by intro _; rfl)))))) (pss_one (ps_raiseK rfl (takes_of rfl rfl rfl rfl) (pmk_ownK T.xc_NoTerms T.g_NoTerms rfl))) pss_nil)
      (pss_cons (ps_fld (pv 0) (pv 1) rfl)
      (pss_cons (ps_fld (pv 0) (pv 2) rfl)
      (pss_cons (ps_fld (pv 0) (pv 3) rfl)
      (pss_cons (ps_fld (pv 0) (pv 4) rfl)
      (pss_cons (ps_fld (pv 0) (pv 5) rfl)
      (pss_cons (ps_fld (pv 0) (pv 6) rfl)
      (pss_one (ps_if (pt_not (pt_truth (pe_callS (ok_is_within T) (hr.mono (by decide)) (by rfl) T.g_is_within T.k_is_within T.bd_is_within (passAt (takes_of rfl rfl rfl rfl)) (pa_cons (pv 4) (pa_cons pe_int (pa_cons (pe_op op_sub (pe_op op_uMul (pe_methD0 (k := 1) (pv 0) (hr.mono (by decide)) (passAt (takes_of rfl rfl rfl rfl))) (pv 2)) pe_int) pa_nil)))) (by intro _; rfl))) (pss_one (ps_raiseK rfl (takes_of rfl rfl rfl rfl) (pmk_ownK T.xc_NoTerms T.g_NoTerms rfl))) pss_nil)))))))))), ?_⟩
    walk_at "begin"
    have qE : tmGood b p s h i z = false → ∀ H', Off [r] H H' → E (.ref T.C_NoTerms) none H' := fun hg => by
      rcases q with ⟨hg2, _⟩ | ⟨_, q⟩
      · rw [hg] at hg2; cases hg2
      · exact q
    walk_at "if"
    refine x_wNum nb ?_
    walk_at "go"
    refine x_iteB (fun hb => ?_) (fun hb => ?_)
    rotate_left
    · walk_at "go"
      exact qE (by unfold tmGood; rw [hb]; rfl) H Off.refl
    obtain ⟨b, rfl, rfl, hb1, hb2⟩ := nb.of_inB hb
    walk_at "go"
    refine x_wNum np ?_
    walk_at "go"
    refine x_iteB (fun hp => ?_) (fun hp => ?_)
    rotate_left
    · walk_at "go"
      exact qE (by unfold tmGood; rw [hb, hp]; rfl) H Off.refl
    obtain ⟨p, rfl, rfl, hp1, hp2⟩ := np.of_inB hp
    walk_at "go"
    refine x_wNum ns ?_
    walk_at "go"
    refine x_iteB (fun hs => ?_) (fun hs => ?_)
    rotate_left
    · walk_at "go"
      exact qE (by unfold tmGood; rw [hb, hp, hs]; rfl) H Off.refl
    obtain ⟨s, rfl, rfl, hs1, hs2⟩ := ns.of_inB hs
    walk_at "go"
    walk_at "if"
    refine x_wNum ni ?_
    walk_at "go"
    refine x_iteB (fun hi => ?_) (fun hi => ?_)
    rotate_left
    · walk_at "go"
      exact qE (by unfold tmGood; rw [hb, hp, hs, show inB i 0 ((some b).getD 0 - 2) = false from hi]; rfl) H Off.refl
    obtain ⟨i, rfl, rfl, hi1, hi2⟩ := ni.of_inB hi
    walk_at "go"
    refine x_wNum nz ?_
    walk_at "go"
    refine x_iteB (fun hz => ?_) (fun hz => ?_)
    rotate_left
    · walk_at "go"
      exact qE (by unfold tmGood; rw [hb, hp, hs, show inB (some i) 0 ((some b).getD 0 - 2) = true from hi, hz]; rfl) H Off.refl
    obtain ⟨z, rfl, rfl, hz1, hz2⟩ := nz.of_inB hz
    walk_at "go"
    rename_i H1 hO1 hI1 H2 hO2 hI2 H3 hO3 hI3 H4 hO4 hI4 H5 hO5 hI5 H6 hO6 hI6
    have hO : Off [r] H H6 := ((((hO1.trans hO2).trans hO3).trans hO4).trans hO5).trans hO6
    refine x_mtK hI6 (MO_closed T) rfl ?_
    walk_at "go"
    refine ⟨_, _, _, _, _, rfl, hI6, rfl, rfl, ?_⟩
    walk_at "go"
    refine x_wNum nh ?_
    walk_at "go"
    refine x_iteB (fun hh => ?_) (fun hh => ?_)
    rotate_left
    · walk_at "go"
      exact qE (by unfold tmGood; rw [hb, hp, hs, show inB (some i) 0 ((some b).getD 0 - 2) = true from hi, hz, show inB h 1 (((some b).getD 0 - 1 - (some i).getD 0) * (some p).getD 0 - 2) = false from hh]; rfl) H6 hO
    obtain ⟨h, rfl, rfl, hh1, hh2⟩ := nh.of_inB hh
    walk_at "go"
    rcases q with ⟨_, q⟩ | ⟨hg, _⟩
    · exact q H6 hO ⟨dx, hI6⟩
    · unfold tmGood at hg
      rw [hb, hp, hs, show inB (some i) 0 ((some b).getD 0 - 2) = true from hi, hz, show inB (some h) 1 (((some b).getD 0 - 1 - (some i).getD 0) * (some p).getD 0 - 2) = true from hh] at hg
      cases hg

/-! ### a plain store -/
structure Ts where
  b : Int
  p : Int
  s : Int
  h : Int
  i : Int
  z : Int
def termF (t : Ts) : List (Str × V) := [("blocks", .int t.b), ("pages", .int t.p), ("sheets", .int t.s), ("share", .int t.h), ("ill", .int t.i), ("spread", .int t.z)]
structure PF where
  dx : Addr
  rc : Addr
  fc : CF
  rt : Addr
  dt : Addr
  rb : Addr
  fb : BF
def plainF (P : PF) : List (Str × V) := [("chip", .ref P.rc), ("terms", .ref P.rt), ("book", .ref P.rb)]
/-- what changes: the chip and the book -/
def PF.mut (P : PF) : List Addr := P.fc.all P.rc ++ P.fb.all P.rb
/-- what a class of stores says of its fields -/
structure VT (T : Txt K mg) (C : Addr) : Prop where
  cl : Cls K C
  n1 : NoAttr K C "chip"
  n2 : NoAttr K C "terms"
  n3 : NoAttr K C "book"
  n4 : NoAttr K C "rule"
  n5 : NoAttr K C "papers"
/-- the fields behind a plain store's: rule and papers -/
def exF : Option (V × V) → List (Str × V)
  | none => []
  | some (u, v) => [("rule", u), ("papers", v)]
structure GAt (T : Txt K mg) (C : Addr) (ex : Option (V × V)) (H : Hp) (r : Addr) (P : PF) (t : Ts) (c : Cs) (k : Bk) : Prop where
  obj : H r = some (.ins C P.dx (plainF P ++ exF ex))
  chip : ChipAt T.C_Chip H P.rc P.fc c
  terms : H P.rt = some (.ins T.C_Terms P.dt (termF t))
  book : BookAt T.C_Book H P.rb P.fb k
  bok : BkOk k
  same : t.b = c.b ∧ t.p = c.p ∧ k.b = c.b ∧ k.p = c.p
  nr : r ∉ P.mut
  nt : P.rt ∉ P.mut
  cb : ∀ a ∈ P.fb.all P.rb, a ∉ P.fc.all P.rc
theorem GAt.mono {T : Txt K mg} {C : Addr} {ex : Option (V × V)} {H H' : Hp} {r : Addr} {P : PF} {t : Ts} {c : Cs} {k : Bk} (s : Same H H') (h : GAt T C ex H r P t c k) : GAt T C ex H' r P t c k := ⟨s _ _ h.obj, h.chip.mono s, s _ _ h.terms, h.book.mono s, h.bok, h.same, h.nr, h.nt, h.cb⟩
/-- the chip changes -/
theorem GAt.chipC {T : Txt K mg} {C : Addr} {ex : Option (V × V)} {H H' : Hp} {r : Addr} {P : PF} {t : Ts} {c c' : Cs} {k : Bk} (h : GAt T C ex H r P t c k) (s : Off (P.fc.all P.rc) H H') (hC : ChipAt T.C_Chip H' P.rc P.fc c') (e : c'.b = c.b ∧ c'.p = c.p) : GAt T C ex H' r P t c' k := by
  have hs := h.same
  exact ⟨s.at h.obj (fun z => h.nr (List.mem_append_left _ z)), hC, s.at h.terms (fun z => h.nt (List.mem_append_left _ z)), h.book.off s h.cb, h.bok, by rw [e.1, e.2]; exact hs, h.nr, h.nt, h.cb⟩
/-- the book changes -/
theorem GAt.bookC {T : Txt K mg} {C : Addr} {ex : Option (V × V)} {H H' : Hp} {r : Addr} {P : PF} {t : Ts} {c : Cs} {k k' : Bk} (h : GAt T C ex H r P t c k) (s : Off (P.fb.all P.rb) H H') (hB : BookAt T.C_Book H' P.rb P.fb k') (hk : BkOk k') (e : k'.b = k.b ∧ k'.p = k.p) : GAt T C ex H' r P t c k' := by
  have hs := h.same
  have ht := tups_of h.book.there s
  exact ⟨s.at h.obj (fun z => h.nr (List.mem_append_right _ z)), h.chip.off s (fun a ha hb => h.cb a hb ha) ht, s.at h.terms (fun z => h.nt (List.mem_append_right _ z)), hB, hk, by rw [e.1, e.2]; exact hs, h.nr, h.nt, h.cb⟩
theorem GAt.there {T : Txt K mg} {C : Addr} {ex : Option (V × V)} {H : Hp} {r : Addr} {P : PF} {t : Ts} {c : Cs} {k : Bk} (h : GAt T C ex H r P t c k) : ∀ a ∈ P.mut, ∃ o, H a = some o ∧ ∀ xs, o ≠ .tup xs := fun a ha => by
  unfold PF.mut at ha
  rcases List.mem_append.mp ha with ha | ha
  · exact h.chip.there a ha
  · exact h.book.there a ha
theorem GAt.fresh {T : Txt K mg} {C : Addr} {ex : Option (V × V)} {H : Hp} {r : Addr} {P : PF} {t : Ts} {c : Cs} {k : Bk} (h : GAt T C ex H r P t c k) {q : Addr} (hq : H q = none) : q ∉ P.mut := fun m => by
  obtain ⟨o, e, _⟩ := h.there q m
  rw [hq] at e
  cases e
theorem GAt.off {T : Txt K mg} {C : Addr} {ex : Option (V × V)} {H H' : Hp} {r : Addr} {P : PF} {t : Ts} {c : Cs} {k : Bk} {S : List Addr} (h : GAt T C ex H r P t c k) (s : Off S H H') (n : ∀ a, a ∈ P.mut → a ∉ S) (nr : r ∉ S) (nt : P.rt ∉ S) (ht : TupS H H') : GAt T C ex H' r P t c k :=
  ⟨s.at h.obj nr, h.chip.off s (fun a ha => n a (List.mem_append_left _ ha)) ht, s.at h.terms nt, h.book.off s (fun a ha => n a (List.mem_append_right _ ha)), h.bok, h.same, h.nr, h.nt, h.cb⟩
def spGInit (T : Txt K mg) : Sp := fun vs H Q _ => ∃ (C r dx rc : Addr) (F : CF) (rt dt : Addr) (t : Ts) (c : Cs), vs = [.ref r, .ref rc, .ref rt] ∧ VT T C ∧ H r = some (.ins C dx []) ∧ ChipAt T.C_Chip H rc F c ∧ H rt = some (.ins T.C_Terms dt (termF t)) ∧ t.b = c.b ∧ t.p = c.p ∧ r ∉ F.all rc ∧ r ≠ rt ∧ rt ∉ F.all rc ∧
  ∀ rb fb H', Off [r] H H' → (∀ a ∈ BF.all fb rb, H a = none) → GAt T C none H' r ⟨dx, rc, F, rt, dt, rb, fb⟩ t c (Bk.new c.b c.p) → Q .non H'
theorem ok_Plain_init (T : Txt K mg) : FO P w K mg base 4 T.a_Plain_init T.fd_Plain_init ["self", "chip", "terms"] (spGInit T) := by
  have sc := sc_Plain_init
  refine T.F_Plain_init.okX sc (fun vs H Q E h => ?_) (fun cdv A outer s H vs Q E hr h => ?_)
  · obtain ⟨_, _, _, _, _, _, _, _, _, rfl, _⟩ := h
    rfl
  · obtain ⟨C, r, dx, rc, F, rt, dt, t, c, rfl, ⟨vcl, vna1, vna2, vna3, vna4, vna5⟩, hR, hC, hT, e1, e2, d1, d2, d3, q⟩ := h
    refine ⟨_, (pss_cons (ps_if (PW.pt (pw_or (pt_cmpR (op_uNe hr.units) (pe_fld (pv 1) rfl) (pe_fld (pv 2) rfl) (nomark _)) (pw_or1 (pt_cmpR (op_uNe hr.units) (pe_fld (pv 1) rfl) (pe_fld (pv 2) rfl) (nomark _))))) (pss_one (ps_raiseK rfl (takes_of rfl rfl rfl rfl) (pmk_ownK T.xc_NoTerms T.g_NoTerms rfl))) pss_nil)
      (pss_cons (ps_fld (pv 0) (pv 1) rfl)
      (pss_cons (ps_fld (pv 0) (pv 2) rfl)
      (pss_one (ps_fld (pv 0) (pe_mkS T.mk_Book (ok_Book_init T) (hr.mono (by decide)) (by rfl) T.g_Book T.bd_Book_init .nil (passAt (takes_of rfl rfl rfl rfl)) (pa_cons (pe_fld (pv 1) rfl) (pa_cons (pe_fld (pv 1) rfl) pa_nil))) rfl))))), ?_⟩
    have hoc := hC.obj
    have hot := hT
    unfold chipF at hoc
    unfold termF at hot
    walk_at "begin"
    walk_at "if"
    refine x_iteD (fun _ => ?_) (fun h => absurd e1.symm h)
    walk_at "go"
    refine x_iteD (fun _ => ?_) (fun h => absurd e2.symm h)
    have d4 : rc ≠ r := fun z => d1 (by rw [← z]; exact List.mem_cons_self)
    have d5 : rt ≠ r := d2.symm
    walk_at "go"
    rename_i H1 hO1 hI1 H2 hO2 hI2 x dxb H3 hx hdx hne hs3 hn3 hdd
    have o2 : Off [r] H H2 := hO1.trans hO2
    refine ⟨x, dxb, c.b, c.p, rfl, hn3, hC.sz.b, hC.sz.p, fun fb H4 hO4 hF4 hB4 => ⟨rfl, ?_⟩⟩
    have rx : r ≠ x := ne_of_none hI2 hx
    have hI4 : H4 r = some (.ins C dx [("chip", .ref rc), ("terms", .ref rt)]) := hO4.at (hs3 _ _ hI2) (nin_of rx)
    walk_at "go"
    rename_i H5 hO5 hI5
    have s24 : Same H2 H4 := Off.same1 hs3 hO4 hx
    have o5 : Off [r] H H5 := (o2.trans (Off.of s24)).trans hO5
    have hx0 : H x = none := off_none o2 hx rx.symm
    have nB : ∀ a ∈ BF.all fb x, H2 a = none := fun a ha => by
      by_cases e : a = x
      · rw [e]; exact hx
      · exact same_none hs3 (hF4 a ha e)
    have nr : ∀ a ∈ BF.all fb x, a ≠ r := fun a ha z => by
      have := nB a ha
      rw [z, hI2] at this
      cases this
    have nH : ∀ a ∈ BF.all fb x, H a = none := fun a ha => off_none o2 (nB a ha) (nr a ha)
    have tS : TupS H H5 := o5.tups hR
    have hC5 : ChipAt T.C_Chip H5 rc F c := hC.off o5 (fun a ha => nin_of (fun z => d1 (z ▸ ha))) tS
    have hB5 : BookAt T.C_Book H5 x fb (Bk.new c.b c.p) := hB4.off hO5 (fun a ha => nin_of (nr a ha))
    refine q x fb H5 o5 nH ⟨hI5, hC5, o5.at hT (nin_of d5), hB5, Bk.new_ok hC.sz.b hC.sz.p, ⟨e1, e2, rfl, rfl⟩, fun z => ?_, fun z => ?_, fun a ha => hC.fresh (nH a ha)⟩
    · rcases List.mem_append.mp z with z | z
      · exact d1 z
      · exact nr r z rfl
    · rcases List.mem_append.mp z with z | z
      · exact d3 z
      · have := nH rt z
        rw [hT] at this
        cases this
/-! what the store tells of its blocks -/
theorem range_filt2 {f : Nat → Bool} {s : Nat} : (List.range (s + 1)).filter f = if f s = true then (List.range s).filter f ++ [s] else (List.range s).filter f := by
  rw [List.range_succ, List.filter_append]
  split
  · rename_i h; simp [h]
  · rename_i h; simp [h]
def goodL (c : Cs) : List Nat := (List.range c.b.toNat).filter fun n => !c.broken.getD n false
def spGGood (T : Txt K mg) : Sp := fun vs H Q _ => ∃ (C : Addr) (ex : Option (V × V)) (r : Addr) (P : PF) (t : Ts) (c : Cs) (k : Bk), vs = [.ref r] ∧ VT T C ∧ GAt T C ex H r P t c k ∧ ∀ p H', Same H H' → H p = none → H' p = some (.lst ((goodL c).map fun n : Nat => V.int (n : Int))) → Q (.ref p) H'
theorem ok_Plain_good (T : Txt K mg) : FO P w K mg base 5 T.a_Plain_good T.fd_Plain_good ["self"] (spGGood T) := by
  have sc := sc_Plain_good
  refine T.F_Plain_good.okX sc (fun vs H Q E h => ?_) (fun cdv A outer s H vs Q E hr h => ?_)
  · obtain ⟨_, _, _, _, _, _, _, rfl, _⟩ := h
    rfl
  · obtain ⟨C, ex, r, P0, t, c, k, rfl, ⟨vcl, vna1, vna2, vna3, vna4, vna5⟩, hP, q⟩ := h
    refine ⟨_, (pss_one (ps_ret (pe_lc (own := [("block", 1)]) (by rfl) sc.nd (pi_range1 (by rfl) T.b_range (pa_cons (pe_fld (pe_fld (pv 0) rfl) rfl) pa_nil)) (blkOk_by (own := [("block", 1)]) (N := N_Plain_good) (sc := defScope s_Plain_good) (by decide +kernel)) (fun _ _ _ _ _ => (pg_name (i := 1) sc.nd rfl (by first | exact Or.inl rfl | exact Or.inr rfl))) (fun _ _ _ _ _ => (pts_one (pt_not (K_truth (K := K) (K_methD (P := P) (w := w) (K := K) (mg := mg) (base := base) (k := 4) (K_fld (K := K) (pv 0) rfl) (hr.mono (by decide)) passL2 (pa_cons (pv 1) pa_nil)) (by intro _; rfl))))) (fun _ _ _ _ _ => (pv 1))))), ?_⟩
    have ho := hP.obj
    have hot := hP.terms
    have hC := hP.chip
    have hsz := hC.sz
    have hbb := hsz.b
    have zb := hsz.broken
    have es := hP.same.1
    unfold plainF at ho
    unfold termF at hot
    walk_at "begin"
    walk_at "go"
    rw [es]
    refine x_lcR1K (fun i acc H' => acc = (((List.range i).filter fun n => !c.broken.getD n false).map fun n : Nat => V.int (n : Int))) (fun i acc H H' _ h => h) ⟨by omega, by omega⟩ rfl ?_ ?_
    · intro i acc H' hi hs' ha NY NN hY hN
      have hC' := hC.mono hs'
      have ho' := hs' _ _ ho
      have hi2 : 0 ≤ ((i : Nat) : Int) ∧ ((i : Nat) : Int) < c.b := by omega
      dsimp only [wipe]
      walk_at "go"
      refine ⟨rfl, ?_⟩
      walk_at "go"
      refine x_mFailed hC' ?_
      walk_at "go"
      refine x_failed hC' ?_ hi2
      rw [Int.toNat_natCast]
      have er := range_filt2 (f := fun n => !c.broken.getD n false) (s := i)
      cases hbk : c.broken.getD i false with
      | true =>
        walk_at "go"
        refine hN _ (fun _ _ h => h) ?_
        show acc = _
        rw [er, if_neg (by rw [hbk]; decide)]
        exact ha
      | false =>
        walk_at "go"
        refine hY _ _ (fun _ _ h => h) ?_
        show acc ++ _ = _
        rw [er, if_pos (by rw [hbk]; rfl), ha, List.map_append]
        rfl
    · intro p acc H2 hp hs2 hn2 ha
      rw [ha] at hn2
      exact q p H2 hs2 hp hn2
theorem x_mGGood {T : Txt K mg} {C : Addr} {ex : Option (V × V)} {H : Hp} {Q : VK} {E : XK} {σ : L2.St} {r : Addr} {P0 : PF} {t : Ts} {c : Cs} {k : Bk} (hv : VT T C) (hm : Meth K C "good" T.a_Plain_good) (hP : GAt T C ex H r P0 t c k) (q : ∀ p H', Same H H' → H p = none → H' p = some (.lst ((goodL c).map fun n : Nat => V.int (n : Int))) → Q (.ref p) H') : mtK P w K mg base (L2.CX P w) 5 "good" E σ tNil Q (.ref r) H :=
  x_mtK hP.obj ⟨⟨_, _, _, hv.cl, hm, ok_Plain_good T, T.bd_Plain_good⟩⟩ (by cases ex <;> rfl) ⟨C, ex, r, P0, t, c, k, rfl, hv, hP, q⟩

--#CUT
/-! ### a store that makes room, made -/
def spSInit (T : Txt K mg) : Sp := fun vs H Q _ => ∃ (C r dx rc : Addr) (F : CF) (rt dt : Addr) (t : Ts) (c : Cs) (ru : V), vs = [.ref r, .ref rc, .ref rt, ru] ∧ VT T C ∧ H r = some (.ins C dx []) ∧ ChipAt T.C_Chip H rc F c ∧ H rt = some (.ins T.C_Terms dt (termF t)) ∧ t.b = c.b ∧ t.p = c.p ∧ r ∉ F.all rc ∧ r ≠ rt ∧ rt ∉ F.all rc ∧
  ∀ rb fb pa H', Off [r] H H' → (∀ a ∈ BF.all fb rb, H a = none) → H pa = none → H' pa = some (.lst []) → pa ∉ BF.all fb rb → GAt T C (some (ru, .ref pa)) H' r ⟨dx, rc, F, rt, dt, rb, fb⟩ t c (Bk.new c.b c.p) → Q .non H'
theorem ok_Store_init (T : Txt K mg) : FO P w K mg base 5 T.a_Store_init T.fd_Store_init ["self", "chip", "terms", "rule"] (spSInit T) := by
  have sc := sc_Store_init
  refine T.F_Store_init.okX sc (fun vs H Q E h => ?_) (fun cdv A outer s H vs Q E hr h => ?_)
  · obtain ⟨_, _, _, _, _, _, _, _, _, _, rfl, _⟩ := h
    rfl
  · obtain ⟨C, r, dx, rc, F, rt, dt, t, c, ru, rfl, hv, hR, hC, hT, e1, e2, d1, d2, d3, q⟩ := h
    refine ⟨_, (pss_cons (ps_expr (pe_cinit T.ci_Plain (ok_Plain_init T) (hr.mono (by decide)) (by rfl) T.g_Plain T.k_Plain_init T.bd_Plain_init (passAt (takes_of rfl rfl rfl rfl)) (pa_cons (pv 0) (pa_cons (pv 1) (pa_cons (pv 2) pa_nil)))))
      (pss_cons (ps_fld (pv 0) (pv 3) rfl)
      (pss_one (ps_fld (pv 0) (pe_lst pa_nil) rfl)))), ?_⟩
    obtain ⟨vcl, vna1, vna2, vna3, vna4, vna5⟩ := id hv
    walk_at "begin"
    walk_at "go"
    refine ⟨C, r, dx, rc, F, rt, dt, t, c, rfl, hv, hR, hC, hT, e1, e2, d1, d2, d3, fun rb fb H1 hO1 hF1 hP1 => ?_⟩
    have ho1 := hP1.obj
    have hO1' := hO1
    unfold exF plainF at ho1
    clear hO1
    walk_at "go"
    rename_i H2 hO2 hI2 pa H3 hpa hs3 hn3 H4 hO4 hI4
    have o14 : Off [r] H1 H4 := (hO2.trans (Off.of hs3)).trans hO4
    have nr := hP1.nr
    have npr : pa ≠ r := (ne_of_none hI2 hpa).symm
    have npa1 : H1 pa = none := off_none hO2 hpa npr
    have ho1' := hP1.obj
    have tt : TupS H1 H4 := o14.tups ho1'
    have npb : pa ∉ BF.all fb rb := hP1.book.fresh npa1
    have hmr : ∀ a, a ∈ PF.mut ⟨dx, rc, F, rt, dt, rb, fb⟩ → a ∉ [r] := fun a ha => nin_of (fun z => nr (z ▸ ha))
    have hP4 : GAt T C (some (ru, .ref pa)) H4 r ⟨dx, rc, F, rt, dt, rb, fb⟩ t c (Bk.new c.b c.p) :=
      ⟨hI4, hP1.chip.off o14 (fun a ha => hmr a (List.mem_append_left _ ha)) tt, o14.at hP1.terms (nin_of d2.symm), hP1.book.off o14 (fun a ha => hmr a (List.mem_append_right _ ha)), hP1.bok, hP1.same, hP1.nr, hP1.nt, hP1.cb⟩
    exact q rb fb pa H4 (hO1'.trans o14) hF1 (off_none hO1' npa1 npr) (hO4.at hn3 (nin_of npr)) npb hP4
/-! ### how the blocks wear -/
def goodI (c : Cs) : List Int := (goodL c).map fun n : Nat => (n : Int)
def clrG (c : Cs) : List Int := (goodL c).map fun n : Nat => c.clr.getD n 0
theorem goodL_len {c : Cs} (h : Sizes c) : (goodL c).length ≤ 16 := by
  unfold goodL
  refine Nat.le_trans (List.length_filter_le _ _) ?_
  rw [List.length_range]
  have := h.b
  omega
theorem goodL_lt {c : Cs} {n : Nat} (h : n ∈ goodL c) : n < c.b.toNat := by
  unfold goodL at h
  exact List.mem_range.mp (List.mem_filter.mp h).1
def spClrs (T : Txt K mg) : Sp := fun vs H Q _ => ∃ (C : Addr) (ex : Option (V × V)) (r : Addr) (P : PF) (t : Ts) (c : Cs) (k : Bk), vs = [.ref r] ∧ VT T C ∧ Meth K C "good" T.a_Plain_good ∧ GAt T C ex H r P t c k ∧ ∀ p H', Same H H' → H p = none → H' p = some (.lst ((clrG c).map V.int)) → Q (.ref p) H'
theorem ok_Even_clearings_of (T : Txt K mg) : FO P w K mg base 6 T.a_Even_clearings_of T.fd_Even_clearings_of ["self"] (spClrs T) := by
  have sc := sc_Even_clearings_of
  refine T.F_Even_clearings_of.okX sc (fun vs H Q E h => ?_) (fun cdv A outer s H vs Q E hr h => ?_)
  · obtain ⟨_, _, _, _, _, _, _, rfl, _⟩ := h
    rfl
  · obtain ⟨C, ex, r, P0, t, c, k, rfl, hv, hm, hP, q⟩ := h
    refine ⟨_, (pss_one (ps_ret (pe_lc (own := [("block", 1)]) (by rfl) sc.nd (pi_list (pe_methD0 (k := 5) (pv 0) (hr.mono (by decide)) (passAt (takes_of rfl rfl rfl rfl)))) (blkOk_by (own := [("block", 1)]) (N := N_Even_clearings_of) (sc := defScope s_Even_clearings_of) (by decide +kernel)) (fun _ _ _ _ _ => (pg_name (i := 1) sc.nd rfl (by first | exact Or.inl rfl | exact Or.inr rfl))) (fun _ _ _ _ _ => pts_nil) (fun _ _ _ _ _ => (K_methD (P := P) (w := w) (K := K) (mg := mg) (base := base) (k := 4) (K_fld (K := K) (pv 0) rfl) (hr.mono (by decide)) passL2 (pa_cons (pv 1) pa_nil)))))), ?_⟩
    obtain ⟨vcl, vna1, vna2, vna3, vna4, vna5⟩ := id hv
    walk_at "begin"
    walk_at "go"
    refine x_mGGood hv hm hP fun p1 H1 hs1 hp1 hn1 => ?_
    have hP1 := hP.mono hs1
    have ho1 := hP1.obj
    unfold plainF at ho1
    walk_at "go"
    refine x_lcLK (SqL.of hn1) (fun i acc H' => acc = (((goodL c).take i).map fun n : Nat => c.clr.getD n 0).map V.int) (fun _ _ _ _ _ h => h) (Nat.lt_of_le_of_lt (show _ ≤ 1000 by rw [List.length_map]; exact Nat.le_trans (goodL_len hP.chip.sz) (by decide)) (by decide)) rfl ?_ ?_
    · intro i x acc H' hx hs' ha NY NN hY hN
      rw [List.getElem?_map] at hx
      cases he : (goodL c)[i]? with
      | none => rw [he] at hx; cases hx
      | some n =>
        rw [he] at hx
        cases hx
        have ho' := hs' _ _ ho1
        have hC' := hP1.chip.mono hs'
        have hn2 := goodL_lt (List.mem_of_getElem? he)
        have hbb := hP.chip.sz.b
        have hn3 : 0 ≤ (n : Int) ∧ (n : Int) < c.b := by omega
        dsimp only [wipe]
        walk_at "go"
        refine ⟨rfl, ?_⟩
        walk_at "go"
        refine x_mCleared hC' ?_
        walk_at "go"
        refine x_cleared hC' ?_ hn3
        rw [Int.toNat_natCast]
        refine hY _ _ (fun _ _ h => h) ?_
        show acc ++ _ = _
        rw [List.take_add_one, he, ha]
        simp
    · intro p acc H2 hp2 hs2 hn2 ha
      rw [List.length_map, List.take_length] at ha
      rw [ha] at hn2
      exact q p H2 (hs1.trans hs2) (same_none hs1 hp2) hn2
theorem x_mClrs {T : Txt K mg} {C : Addr} {ex : Option (V × V)} {H : Hp} {Q : VK} {E : XK} {σ : L2.St} {r : Addr} {P0 : PF} {t : Ts} {c : Cs} {k : Bk} (hv : VT T C) (hm : Meth K C "good" T.a_Plain_good) (hm2 : Meth K C "clearings_of" T.a_Even_clearings_of) (hP : GAt T C ex H r P0 t c k) (q : ∀ p H', Same H H' → H p = none → H' p = some (.lst ((clrG c).map V.int)) → Q (.ref p) H') : mtK P w K mg base (L2.CX P w) 6 "clearings_of" E σ tNil Q (.ref r) H :=
  x_mtK hP.obj ⟨⟨_, _, _, hv.cl, hm2, ok_Even_clearings_of T, T.bd_Even_clearings_of⟩⟩ (by cases ex <;> rfl) ⟨C, ex, r, P0, t, c, k, rfl, hv, hm, hP, q⟩
def spLeast (T : Txt K mg) : Sp := fun vs H Q _ => ∃ (C : Addr) (ex : Option (V × V)) (r : Addr) (P : PF) (t : Ts) (c : Cs) (k : Bk), vs = [.ref r] ∧ VT T C ∧ Meth K C "good" T.a_Plain_good ∧ Meth K C "clearings_of" T.a_Even_clearings_of ∧ GAt T C ex H r P t c k ∧ ∀ H', Same H H' → Q (.int (minZ 0 (clrG c))) H'
theorem ok_Even_least (T : Txt K mg) : FO P w K mg base 7 T.a_Even_least T.fd_Even_least ["self"] (spLeast T) := by
  have sc := sc_Even_least
  refine T.F_Even_least.okX sc (fun vs H Q E h => ?_) (fun cdv A outer s H vs Q E hr h => ?_)
  · obtain ⟨_, _, _, _, _, _, _, rfl, _⟩ := h
    rfl
  · obtain ⟨C, ex, r, P0, t, c, k, rfl, hv, hm, hm2, hP, q⟩ := h
    refine ⟨_, (pss_one (ps_ret (pe_callBK (cr_minD hr.units) (by rfl) T.b_min bt_min (pa_cons (pe_methD0 (k := 6) (pv 0) (hr.mono (by decide)) (passAt (takes_of rfl rfl rfl rfl))) pa_nil) (pk_cons pe_int pk_nil)))), ?_⟩
    walk_at "begin"
    walk_at "go"
    refine x_ckw ?_
    walk_at "go"
    refine x_mClrs hv hm hm2 hP fun p1 H1 hs1 hp1 hn1 => ?_
    walk_at "go"
    refine x_extD (SqL.of hn1) ?_
    exact q H1 hs1
def spGap (T : Txt K mg) : Sp := fun vs H Q _ => ∃ (C : Addr) (ex : Option (V × V)) (r : Addr) (P : PF) (t : Ts) (c : Cs) (k : Bk), vs = [.ref r] ∧ VT T C ∧ Meth K C "good" T.a_Plain_good ∧ Meth K C "clearings_of" T.a_Even_clearings_of ∧ GAt T C ex H r P t c k ∧ ∀ H', Same H H' → Q (.int (maxZ 0 (clrG c) - minZ 0 (clrG c))) H'
theorem ok_Even_gap (T : Txt K mg) : FO P w K mg base 7 T.a_Even_gap T.fd_Even_gap ["self"] (spGap T) := by
  have sc := sc_Even_gap
  refine T.F_Even_gap.okX sc (fun vs H Q E h => ?_) (fun cdv A outer s H vs Q E hr h => ?_)
  · obtain ⟨_, _, _, _, _, _, _, rfl, _⟩ := h
    rfl
  · obtain ⟨C, ex, r, P0, t, c, k, rfl, hv, hm, hm2, hP, q⟩ := h
    refine ⟨_, (pss_cons (ps_set (i := 1) sc.nd rfl (by first | exact Or.inl rfl | exact Or.inr rfl) (pe_methD0 (k := 6) (pv 0) (hr.mono (by decide)) (passAt (takes_of rfl rfl rfl rfl))))
      (pss_one (ps_ret (pe_op op_sub (pe_callBK (cr_maxD hr.units) (by rfl) T.b_max bt_max (pa_cons (pv 1) pa_nil) (pk_cons pe_int pk_nil)) (pe_callBK (cr_minD hr.units) (by rfl) T.b_min bt_min (pa_cons (pv 1) pa_nil) (pk_cons pe_int pk_nil)))))), ?_⟩
    walk_at "begin"
    walk_at "go"
    refine x_mClrs hv hm hm2 hP fun p1 H1 hs1 hp1 hn1 => ?_
    walk_at "go"
    refine x_ckw ?_
    walk_at "go"
    refine x_extD (SqL.of hn1) ?_
    walk_at "go"
    refine x_ckw ?_
    walk_at "go"
    refine x_extD (SqL.of hn1) ?_
    walk_at "go"
    exact q H1 hs1
/-! ### the law -/
def spMix : Sp := fun vs H Q _ => ∃ (x k : Int), vs = [.int x, .int k] ∧ ∀ m : Int, 0 ≤ m → m < 1000003 → Q (.int m) H
theorem ok_mix (T : Txt K mg) : FO P w K mg base 1 T.a__law_mix T.fd__law_mix ["_law_cell", "_law_k"] spMix := by
  have sc := sc__law_mix
  refine T.F__law_mix.okX sc (fun vs H Q E h => ?_) (fun cdv A outer s H vs Q E hr h => ?_)
  · obtain ⟨_, _, rfl, _⟩ := h
    rfl
  · obtain ⟨x, k, rfl, q⟩ := h
    refine ⟨_, (pss_cons (ps_set (i := 2) sc.nd rfl (by first | exact Or.inl rfl | exact Or.inr rfl) (pe_op op_mod (pe_op op_uMul (pe_op op_uAdd (pe_op op_uAdd (pe_op op_mod (pv 0) pe_int) (pe_op op_uMul pe_int (pv 1))) pe_int) pe_int) pe_int))
      (pss_one (ps_ret (pe_op op_mod (pe_op op_uMul (pv 2) (pv 2)) pe_int)))), ?_⟩
    walk_at "begin"
    walk_at "go"
    exact q _ (Int.emod_nonneg _ (by decide)) (Int.emod_lt_of_pos _ (by decide))
theorem x_lmix {H : Hp} {Q : VK} {E : XK} {x k : Int} (q : ∀ m : Int, 0 ≤ m → m < 1000003 → Q (.int m) H) : spMix [.int x, .int k] H Q E := ⟨x, k, rfl, q⟩
def spWiped (T : Txt K mg) : Sp := fun vs H Q _ => ∃ (r : Addr) (F : CF) (c : Cs) (n : Int), vs = [.ref r, .int n] ∧ ChipAt T.C_Chip H r F c ∧ (0 ≤ n ∧ n < c.b) ∧ c.dark = false ∧ c.broken.getD n.toNat false = false ∧ c.log.length < 900000 ∧
  ∀ H', Off (F.all r) H H' → ChipAt T.C_Chip H' r F (c.wipeR (some n)).2 → Q (.bl (c.well n.toNat (decide (c.clr.getD n.toNat 0 = c.m)))) H'
theorem ok_wiped (T : Txt K mg) : FO P w K mg base 5 T.a__law_wiped T.fd__law_wiped ["_law_chip", "_law_block"] (spWiped T) := by
  have sc := sc__law_wiped
  refine T.F__law_wiped.okX sc (fun vs H Q E h => ?_) (fun cdv A outer s H vs Q E hr h => ?_)
  · obtain ⟨_, _, _, _, rfl, _⟩ := h
    rfl
  · obtain ⟨r, F, c, n, rfl, hC, hn, hd, hb, hl, q⟩ := h
    refine ⟨_, (pss_cons (ps_set (i := 2) sc.nd rfl (by first | exact Or.inl rfl | exact Or.inr rfl) pe_bl)
      (pss_cons (ps_try1 rfl rfl ⟨rfl, rfl, Or.inl T.g_BlockFailed⟩ (takes_of rfl rfl rfl rfl) (fun W1 pn1 xe1 hW1 hP1 => (pss_one (ps_expr (K_methD (P := P) (w := w) (K := K) (mg := mg) (base := base) (k := 4) (pv 0) (hr.mono (by decide)) (passAt hW1) (pa_cons (pv 1) pa_nil))))) (fun a1 oe1 cls1 d1 pn1 hz1 hv1 => (pss_one (ps_set (i := 2) sc.nd rfl (by first | exact Or.inl rfl | exact Or.inr rfl) pe_bl))))
      (pss_one (ps_ret (pv 2))))), ?_⟩
    walk_at "begin"
    walk_at "go"
    refine x_mWipe hC ?_
    walk_at "go"
    have hin : inB (some n) 0 (c.b - 1) = true := decide_eq_true (by omega)
    refine ⟨r, F, c, .int n, some n, rfl, hC, .int n, hl, fun H1 hO1 hC1 => ?_⟩
    have q1 := q H1 hO1 hC1
    unfold Cs.wipeR at hC1 ⊢
    rw [if_neg (by rw [hin]; decide), if_neg (by rw [hd]; decide), if_neg (by rw [show (some n).getD 0 = n from rfl, hb]; decide)] at hC1 ⊢
    rw [show (some n).getD 0 = n from rfl] at hC1 ⊢
    cases hw : c.well n.toNat (decide (c.clr.getD n.toNat 0 = c.m)) with
    | true =>
      rw [hw] at q1
      rw [if_pos rfl]
      unfold Fin
      dsimp only
      walk_at "go"
      exact q1
    | false =>
      rw [hw] at q1
      rw [if_neg Bool.false_ne_true]
      unfold Fin
      dsimp only
      intro d hd
      refine x_onlyT T.em_BlockFailed_BlockFailed fun a na => ?_
      walk_at "go"
      exact q1
theorem foldl_min_mem : ∀ (l : List Int) (n : Int), l.foldl min n ∈ n :: l
  | [], n => List.mem_cons_self
  | a :: l, n => by
    have h := foldl_min_mem l (min n a)
    rw [List.foldl_cons]
    rcases List.mem_cons.mp h with h | h
    · rw [h]
      rcases Int.le_total n a with z | z
      · rw [Int.min_eq_left z]; exact List.mem_cons_self
      · rw [Int.min_eq_right z]; exact List.mem_cons_of_mem _ List.mem_cons_self
    · exact List.mem_cons_of_mem _ (List.mem_cons_of_mem _ h)
theorem foldl_min_le : ∀ (l : List Int) (n : Int), ∀ m ∈ n :: l, l.foldl min n ≤ m
  | [], n, m, h => by rw [List.mem_singleton.mp h]; exact Int.le_refl _
  | a :: l, n, m, h => by
    rw [List.foldl_cons]
    have h1 := foldl_min_le l (min n a)
    have h2 := h1 _ List.mem_cons_self
    rcases List.mem_cons.mp h with rfl | h
    · exact Int.le_trans h2 (Int.min_le_left _ _)
    rcases List.mem_cons.mp h with rfl | h
    · exact Int.le_trans h2 (Int.min_le_right _ _)
    · exact h1 m (List.mem_cons_of_mem _ h)
theorem foldl_max_mem : ∀ (l : List Int) (n : Int), l.foldl max n ∈ n :: l
  | [], n => List.mem_cons_self
  | a :: l, n => by
    have h := foldl_max_mem l (max n a)
    rw [List.foldl_cons]
    rcases List.mem_cons.mp h with h | h
    · rw [h]
      rcases Int.le_total n a with z | z
      · rw [Int.max_eq_right z]; exact List.mem_cons_of_mem _ List.mem_cons_self
      · rw [Int.max_eq_left z]; exact List.mem_cons_self
    · exact List.mem_cons_of_mem _ (List.mem_cons_of_mem _ h)
theorem foldl_max_le : ∀ (l : List Int) (n : Int), ∀ m ∈ n :: l, m ≤ l.foldl max n
  | [], n, m, h => by rw [List.mem_singleton.mp h]; exact Int.le_refl _
  | a :: l, n, m, h => by
    rw [List.foldl_cons]
    have h1 := foldl_max_le l (max n a)
    have h2 := h1 _ List.mem_cons_self
    rcases List.mem_cons.mp h with rfl | h
    · exact Int.le_trans (Int.le_max_left _ _) h2
    rcases List.mem_cons.mp h with rfl | h
    · exact Int.le_trans (Int.le_max_right _ _) h2
    · exact h1 m (List.mem_cons_of_mem _ h)
theorem minZ_mem {d n : Int} {l : List Int} : minZ d (n :: l) ∈ n :: l := foldl_min_mem l n
theorem minZ_le {d n : Int} {l : List Int} : ∀ m ∈ n :: l, minZ d (n :: l) ≤ m := foldl_min_le l n
theorem maxZ_mem {d n : Int} {l : List Int} : maxZ d (n :: l) ∈ n :: l := foldl_max_mem l n
theorem maxZ_le {d n : Int} {l : List Int} : ∀ m ∈ n :: l, m ≤ maxZ d (n :: l) := foldl_max_le l n
theorem x_eqNilZ {H : Hp} {p q : Addr} {ns : List Int} {Q : VK} (h1 : H p = some (.lst (ns.map V.int))) (h2 : H q = some (.lst [])) (k : Q (.bl ns.isEmpty) H) : uEq K (.ref p) (.ref q) H Q := by
  have dp : ∀ ns : List Int, DpAll K H (ns.map V.int) (ns.map PyData.int) := fun ns => by
    induction ns with
    | nil => exact .nil
    | cons n ns ih => exact .cons (.int n) ih
  refine x_eqD (.lst (SqL.of h1) (dp ns)) (.lst (SqL.of h2) .nil) (Sh.list (k := 8) fun d h => by
    obtain ⟨n, _, rfl⟩ := List.mem_map.mp h
    exact Sh.int) (Sh.list (k := 8) fun d h => by simp at h) ?_
  cases ns with
  | nil => exact k
  | cons t ts => exact k
/-- the least and the gap that are due -/
def spDue : Sp := fun vs H Q _ => ∃ (ca ba : Addr) (c : Cs), vs = [.ref ca, .ref ba] ∧ H ca = some (.lst (c.clr.map V.int)) ∧ H ba = some (.lst (c.broken.map V.bl)) ∧ c.clr.length = c.b.toNat ∧ c.broken.length = c.b.toNat ∧ c.b ≤ 16 ∧
  ∀ p H', Same H H' → H' p = some (.tup [.int (minZ 0 (clrG c)), .int (maxZ 0 (clrG c) - minZ 0 (clrG c))]) → Q (.ref p) H'
theorem ok_due (T : Txt K mg) : FO P w K mg base 1 T.a__law_due T.fd__law_due ["_law_counts", "_law_broken"] spDue := by
  have sc := sc__law_due
  refine T.F__law_due.okX sc (fun vs H Q E h => ?_) (fun cdv A outer s H vs Q E hr h => ?_)
  · obtain ⟨_, _, _, rfl, _⟩ := h
    rfl
  · obtain ⟨ca, ba, c, rfl, hca, hba, lc, lb, hb16, q⟩ := h
    refine ⟨_, (pss_cons (ps_setLc (i := 2) (own := [("_law_block", 3)]) (by rfl) sc.nd rfl rfl (sw_true rfl rfl rfl (by decide +kernel)) (pi_range1 (by rfl) T.b_range (pa_cons (pe_callB (cr_ulen) (by rfl) T.b_len bt_len (pa_cons (pv 0) pa_nil)) pa_nil)) (blkOk_by (own := [("_law_block", 3)]) (N := N__law_due) (sc := defScope s__law_due) (by decide +kernel)) (fun _ _ _ _ _ => (pg_name (i := 3) sc.nd rfl (by first | exact Or.inl rfl | exact Or.inr rfl))) (fun _ _ _ _ _ => (pts_one (pt_not (K_truth (K := K) (pe_ix (K_ix (K := K)) (pv 1) (pv 3) (fun _ _ => rfl)) (by intro _; rfl))))) (fun _ _ _ _ _ => (pe_ix (K_ix (K := K)) (pv 0) (pv 3) (fun _ _ => rfl))))
      (pss_cons (ps_if (pt_cmpR (op_uEq hr.units) (pv 2) (pe_lst pa_nil) (nomark _)) (pss_one (ps_ret (pe_tup (pa_cons pe_int (pa_cons pe_int pa_nil))))) pss_nil)
      (pss_one (ps_ret (pe_tup (pa_cons (pe_callB (cr_umin) (by rfl) T.b_min bt_min (pa_cons (pv 2) pa_nil)) (pa_cons (pe_op op_sub (pe_callB (cr_umax) (by rfl) T.b_max bt_max (pa_cons (pv 2) pa_nil)) (pe_callB (cr_umin) (by rfl) T.b_min bt_min (pa_cons (pv 2) pa_nil))) pa_nil))))))), ?_⟩
    walk_at "begin"
    walk_at "go"
    refine x_lcR1K (fun i acc H' => acc = ((((List.range i).filter fun n => !c.broken.getD n false)).map fun n : Nat => c.clr.getD n 0).map V.int) (fun _ _ _ _ _ h => h) ⟨by omega, by omega⟩ rfl ?_ ?_
    · intro i acc H' hi hs' ha NY NN hY hN
      have hca' := hs' _ _ hca
      have hba' := hs' _ _ hba
      dsimp only [wipe]
      walk_at "go"
      refine ⟨rfl, ?_⟩
      walk_at "go"
      have er := range_filt2 (f := fun n => !c.broken.getD n false) (s := i)
      rw [Int.toNat_natCast]
      refine x_iteB (fun hbk => ?_) (fun hbk => ?_)
      · refine hN _ (fun _ _ h => h) ?_
        show acc = _
        rw [er, if_neg (by rw [hbk]; decide)]
        exact ha
      · walk_at "go"
        rw [Int.toNat_natCast]
        refine hY _ _ (fun _ _ h => h) ?_
        show acc ++ _ = _
        rw [er, if_pos (by rw [hbk]; rfl), ha, List.map_append, List.map_append]
        rfl
    · intro p acc H1 hp hs1 hn1 ha
      have ecl : (((List.range ((c.clr.length : Nat) : Int).toNat).filter fun n => !c.broken.getD n false)).map (fun n : Nat => c.clr.getD n 0) = clrG c := by
        unfold clrG goodL
        rw [Int.toNat_natCast, lc]
      rw [ecl] at ha
      rw [ha] at hn1
      have hlen : (clrG c).length ≤ 16 := by
        unfold clrG goodL
        rw [List.length_map]
        refine Nat.le_trans (List.length_filter_le _ _) ?_
        rw [List.length_range]
        omega
      generalize clrG c = L at hn1 q hlen
      refine x_gname ?_
      dsimp only [List.set]
      walk_at "if"
      rename_i p2 H2 hp2 hs2 hn2
      have hn12 := hs2 _ _ hn1
      have s02 := hs1.trans hs2
      clear hs1 hs2
      refine x_eqNilZ hn12 hn2 ?_
      walk_at "go"
      cases L with
      | nil =>
        refine iteT ?_
        walk_at "go"
        rename_i tp H3 htp hs3 hn3
        exact q tp H3 (s02.trans hs3) hn3
      | cons n l =>
        refine iteF ?_
        have hpos : 0 < (n :: l).length := Nat.zero_lt_succ _
        have emin : ∀ m ∈ n :: l, (∀ j ∈ n :: l, m ≤ j) → m = minZ 0 (n :: l) := fun m hm hle => by
          have h1 := minZ_mem (d := 0) (n := n) (l := l)
          have h2 := minZ_le (d := 0) (n := n) (l := l) m hm
          have h3 := hle _ h1
          omega
        have emax : ∀ m ∈ n :: l, (∀ j ∈ n :: l, j ≤ m) → m = maxZ 0 (n :: l) := fun m hm hle => by
          have h1 := maxZ_mem (d := 0) (n := n) (l := l)
          have h2 := maxZ_le (d := 0) (n := n) (l := l) m hm
          have h3 := hle _ h1
          omega
        walk_at "go"
        refine .inr ⟨p, n :: l, rfl, SqL.of hn12, hpos, fun m hm hle => ?_⟩
        rw [emin m hm hle]
        walk_at "go"
        refine .inr ⟨p, n :: l, rfl, SqL.of hn12, hpos, fun m hm hle => ?_⟩
        rw [emax m hm hle]
        walk_at "go"
        refine .inr ⟨p, n :: l, rfl, SqL.of hn12, hpos, fun m hm hle => ?_⟩
        rw [emin m hm hle]
        walk_at "go"
        rename_i tp H3 htp hs3 hn3
        exact q tp H3 (s02.trans hs3) hn3
theorem VEven (T : Txt K mg) : VT T T.C_Even := ⟨T.cl_Even, T.na_Even_chip, T.na_Even_terms, T.na_Even_book, T.na_Even_rule, T.na_Even_papers⟩
theorem x_mLeast {T : Txt K mg} {ex : Option (V × V)} {H : Hp} {Q : VK} {E : XK} {σ : L2.St} {r : Addr} {P0 : PF} {t : Ts} {c : Cs} {k : Bk} (hP : GAt T T.C_Even ex H r P0 t c k) (q : ∀ H', Same H H' → Q (.int (minZ 0 (clrG c))) H') : mtK P w K mg base (L2.CX P w) 7 "least" E σ tNil Q (.ref r) H :=
  x_mtK hP.obj ⟨⟨_, _, _, T.cl_Even, T.m_Even_least, ok_Even_least T, T.bd_Even_least⟩⟩ (by cases ex <;> rfl) ⟨_, ex, r, P0, t, c, k, rfl, VEven T, T.m_Even_good, T.m_Even_clearings_of, hP, q⟩
theorem x_mGap {T : Txt K mg} {ex : Option (V × V)} {H : Hp} {Q : VK} {E : XK} {σ : L2.St} {r : Addr} {P0 : PF} {t : Ts} {c : Cs} {k : Bk} (hP : GAt T T.C_Even ex H r P0 t c k) (q : ∀ H', Same H H' → Q (.int (maxZ 0 (clrG c) - minZ 0 (clrG c))) H') : mtK P w K mg base (L2.CX P w) 7 "gap" E σ tNil Q (.ref r) H :=
  x_mtK hP.obj ⟨⟨_, _, _, T.cl_Even, T.m_Even_gap, ok_Even_gap T, T.bd_Even_gap⟩⟩ (by cases ex <;> rfl) ⟨_, ex, r, P0, t, c, k, rfl, VEven T, T.m_Even_good, T.m_Even_clearings_of, hP, q⟩
theorem x_eqPrS {H : Hp} {a b : Addr} {i j : Int} {Q : VK} (h1 : H a = some (.tup [.int i, .int j])) (h2 : H b = some (.tup [.int i, .int j])) (k : Q (.bl true) H) : uEq K (.ref a) (.ref b) H Q :=
  x_eqS2 (d := prD (i, j)) (.tup (SqT.of h1) (.cons (.int _) (.cons (.int _) .nil))) (.tup (SqT.of h2) (.cons (.int _) (.cons (.int _) .nil))) (prD_sh (i, j)) k
def spRight (T : Txt K mg) : Sp := fun vs H Q _ => ∃ (ex : Option (V × V)) (r ca ba : Addr) (P : PF) (t : Ts) (c : Cs) (k : Bk), vs = [.ref r, .ref ca, .ref ba] ∧ GAt T T.C_Even ex H r P t c k ∧ H ca = some (.lst (c.clr.map V.int)) ∧ H ba = some (.lst (c.broken.map V.bl)) ∧ ∀ H', Same H H' → Q (.bl true) H'
theorem ok_right (T : Txt K mg) : FO P w K mg base 8 T.a__law_right T.fd__law_right ["_law_store", "_law_counts", "_law_broken"] (spRight T) := by
  have sc := sc__law_right
  refine T.F__law_right.okX sc (fun vs H Q E h => ?_) (fun cdv A outer s H vs Q E hr h => ?_)
  · obtain ⟨_, _, _, _, _, _, _, _, rfl, _⟩ := h
    rfl
  · obtain ⟨ex, r, ca, ba, P0, t, c, k, rfl, hP, hca, hba, q⟩ := h
    refine ⟨_, (pss_cons (ps_set (i := 3) sc.nd rfl (by first | exact Or.inl rfl | exact Or.inr rfl) (pe_tup (pa_cons (pe_methD0 (k := 7) (pv 0) (hr.mono (by decide)) (passAt (takes_of rfl rfl rfl rfl))) (pa_cons (pe_methD0 (k := 7) (pv 0) (hr.mono (by decide)) (passAt (takes_of rfl rfl rfl rfl))) pa_nil))))
      (pss_one (ps_ret (pe_andT (pe_callS (ok_whole T) (hr.mono (by decide)) (by rfl) T.g__law_whole T.k__law_whole T.bd__law_whole (passAt (takes_of rfl rfl rfl rfl)) (pa_cons (pe_ix ix_seq (pv 3) pe_int (fun _ _ => rfl)) pa_nil)) (pe_andT (pe_callS (ok_whole T) (hr.mono (by decide)) (by rfl) T.g__law_whole T.k__law_whole T.bd__law_whole (passAt (takes_of rfl rfl rfl rfl)) (pa_cons (pe_ix ix_seq (pv 3) pe_int (fun _ _ => rfl)) pa_nil)) (pe_one (pe_cmpR (op_uEq hr.units) (pv 3) (pe_callS (ok_due T) (hr.mono (by decide)) (by rfl) T.g__law_due T.k__law_due T.bd__law_due (passAt (takes_of rfl rfl rfl rfl)) (pa_cons (pv 1) (pa_cons (pv 2) pa_nil))) (nomark _)))))))), ?_⟩
    have hsz := hP.chip.sz
    have z1 := hsz.clr
    have z2 := hsz.broken
    have z3 := hsz.b
    walk_at "begin"
    walk_at "go"
    refine x_mLeast hP fun H1 hs1 => ?_
    walk_at "go"
    refine x_mGap (hP.mono hs1) fun H2 hs2 => ?_
    walk_at "go"
    rename_i tp H3 htp hs3 hn3
    refine ⟨ca, ba, c, rfl, hs3 _ _ (hs2 _ _ (hs1 _ _ hca)), hs3 _ _ (hs2 _ _ (hs1 _ _ hba)), by omega, by omega, by omega, fun p H4 hs4 hn4 => ?_⟩
    refine x_eqPrS (hs4 _ _ hn3) hn4 ?_
    exact q H4 (((hs1.trans hs2).trans hs3).trans hs4)
def spIlls (K : PySem.W.Frag) : Sp := fun vs H Q _ => ∃ (a : Addr) (ns : List Int) (B : Int), vs = [.ref a, .int B] ∧ SqL K H a (ns.map V.int) ∧ (2 ≤ B ∧ B ≤ 16) ∧ ∀ p ws is H', Same H H' → H p = none → H' p = some (.lst ws) → PairL H' ws is → IllOk B is → Q (.ref p) H'
theorem ok_ills (T : Txt K mg) : FO P w K mg base 2 T.a__law_ills T.fd__law_ills ["_law_script", "_law_blocks"] (spIlls K) := by
  have sc := sc__law_ills
  refine T.F__law_ills.okX sc (fun vs H Q E h => ?_) (fun cdv A outer s H vs Q E hr h => ?_)
  · obtain ⟨_, _, _, rfl, _⟩ := h
    rfl
  · obtain ⟨a, ns, B, rfl, hS, hB, q⟩ := h
    refine ⟨_, (pss_cons (ps_set (i := 2) sc.nd rfl (by first | exact Or.inl rfl | exact Or.inr rfl) (pe_op op_mod (pe_callS (ok_cell_at T) (hr.mono (by decide)) (by rfl) T.g__law_cell_at T.k__law_cell_at T.bd__law_cell_at (passAt (takes_of rfl rfl rfl rfl)) (pa_cons (pv 0) (pa_cons pe_int pa_nil))) pe_int))
      (pss_cons (ps_set (i := 3) sc.nd rfl (by first | exact Or.inl rfl | exact Or.inr rfl) (pe_lst pa_nil))
      (pss_cons (ps_for (passes_of rfl) rfl (pi_range1 (by rfl) T.b_range (pa_cons (pv 1) pa_nil)) (pg_name (i := 4) sc.nd rfl (by first | exact Or.inl rfl | exact Or.inr rfl)) (pss_one (ps_if (PW.pt (pw_or (pt_cmpR (op_uEq hr.units) (pv 2) pe_int (nomark _)) (pw_or1 (PW.pt (pw_and (pt_cmpR op_gt (pv 2) pe_int (nomark _)) (pw_and1 (pt_cmpR (op_uEq hr.units) (pe_op op_mod (pe_callS (ok_mix T) (hr.mono (by decide)) (by rfl) T.g__law_mix T.k__law_mix T.bd__law_mix (passAt (takes_of rfl rfl rfl rfl)) (pa_cons (pe_callS (ok_cell_at T) (hr.mono (by decide)) (by rfl) T.g__law_cell_at T.k__law_cell_at T.bd__law_cell_at (passAt (takes_of rfl rfl rfl rfl)) (pa_cons (pv 0) (pa_cons pe_int pa_nil))) (pa_cons (pv 4) pa_nil))) pe_int) pe_int (nomark _)))))))) (pss_one (ps_expr (pe_bm PySem.F.plainAttrs_list PySem.F.slot_list_append PySem.F.type_list_append mt_append (pv 3) (pa_cons (pe_tup (pa_cons (pv 4) (pa_cons (pe_op op_mod (pe_callS (ok_mix T) (hr.mono (by decide)) (by rfl) T.g__law_mix T.k__law_mix T.bd__law_mix (passAt (takes_of rfl rfl rfl rfl)) (pa_cons (pe_callS (ok_cell_at T) (hr.mono (by decide)) (by rfl) T.g__law_cell_at T.k__law_cell_at T.bd__law_cell_at (passAt (takes_of rfl rfl rfl rfl)) (pa_cons (pv 0) (pa_cons pe_int pa_nil))) (pa_cons (pv 4) pa_nil))) pe_int) pa_nil))) pa_nil)))) pss_nil)))
      (pss_one (ps_ret (pv 3)))))), ?_⟩
    walk_at "begin"
    walk_at "go"
    rename_i p H1 hp hs1 hn1
    generalize cl ns 2 % 4 = way
    refine x_seq ?_
    walk_at "go"
    refine x_frR1 (by omega) (fun i σ H' => ∃ (v : Option V) (ws : List V) (is : List (Int × Int)), σ = [some (.ref a), some (.int B), some (.int way), some (.ref p), v] ∧ Same H H' ∧ H' p = some (.lst ws) ∧ PairL H' ws is ∧ is.length ≤ i ∧ (∀ e ∈ is, 0 ≤ e.1 ∧ e.1 < (i : Int) ∧ 0 ≤ e.2 ∧ e.2 ≤ 1000000) ∧ is.Pairwise (fun a b => a.1 ≠ b.1))
      ⟨_, [], [], rfl, hs1, hn1, PairL.nil, Nat.le_refl _, fun e he => by (cases he), .nil⟩ ?_ ?_
    · intro i σ H' hi ⟨v, ws, is, hσ, hs', hp', hpl, hil, hie, hpw⟩
      subst hσ
      have hS' := hs'.seq hS
      have hwl : ws.length < sizeLine := Nat.lt_of_le_of_lt (show ws.length ≤ 1000 by rw [hpl.1]; omega) (by decide)
      have fin : ∀ (m : Int) (tp : Addr) (H3 H4 : Hp), 0 ≤ m → Same H' H3 → H3 tp = some (.tup [.int (0 + (i : Int)), .int (m % 5)]) → Off [p] H3 H4 → H4 p = some (.lst (ws ++ [.ref tp])) → ∃ (v : Option V) (ws : List V) (is : List (Int × Int)), [some (V.ref a), some (.int B), some (.int way), some (.ref p), some (.int (0 + (i : Int)))] = [some (.ref a), some (.int B), some (.int way), some (.ref p), v] ∧ Same H H4 ∧ H4 p = some (.lst ws) ∧ PairL H4 ws is ∧ is.length ≤ i + 1 ∧ (∀ e ∈ is, 0 ≤ e.1 ∧ e.1 < ((i + 1 : Nat) : Int) ∧ 0 ≤ e.2 ∧ e.2 ≤ 1000000) ∧ is.Pairwise (fun a b => a.1 ≠ b.1) := by
        intro m tp H3 H4 hm hs3 htp hO4 hp4
        have t34 : TupS H3 H4 := hO4.tupsL (hs3 _ _ hp')
        have htp4 := t34 _ _ htp
        rw [Int.zero_add] at htp4
        refine ⟨_, _, is ++ [((i : Int), m % 5)], rfl, Off.same1 (hs'.trans hs3) hO4 hp, hp4, (hpl.mono ((TupS.of hs3).trans t34)).snoc ⟨tp, rfl, htp4⟩, by rw [List.length_append, List.length_singleton]; omega, fun e he => ?_, ?_⟩
        · rcases List.mem_append.mp he with he | he
          · have := hie e he
            omega
          · rw [List.mem_singleton.mp he]
            have h1 := Int.emod_nonneg m (show (5 : Int) ≠ 0 by decide)
            have h2 := Int.emod_lt_of_pos m (show (0 : Int) < 5 by decide)
            exact ⟨Int.natCast_nonneg _, by show (i : Int) < ((i + 1 : Nat) : Int); omega, h1, by show m % 5 ≤ 1000000; omega⟩
        · rw [List.pairwise_append]
          refine ⟨hpw, List.pairwise_singleton _ _, fun x hx y hy => ?_⟩
          rw [List.mem_singleton.mp hy]
          have := hie x hx
          show x.1 ≠ (i : Int)
          omega
      have non : ∃ (v : Option V) (ws : List V) (is : List (Int × Int)), [some (V.ref a), some (.int B), some (.int way), some (.ref p), some (.int (0 + (i : Int)))] = [some (.ref a), some (.int B), some (.int way), some (.ref p), v] ∧ Same H H' ∧ H' p = some (.lst ws) ∧ PairL H' ws is ∧ is.length ≤ i + 1 ∧ (∀ e ∈ is, 0 ≤ e.1 ∧ e.1 < ((i + 1 : Nat) : Int) ∧ 0 ≤ e.2 ∧ e.2 ≤ 1000000) ∧ is.Pairwise (fun a b => a.1 ≠ b.1) :=
        ⟨_, ws, is, rfl, hs', hp', hpl, Nat.le_succ_of_le hil, fun e he => by
          have := hie e he
          omega, hpw⟩
      walk_at "go"
      refine x_iteD (fun _ => ?_) (fun _ => ?_)
      · walk_at "go"
        refine x_lmix fun m hm0 hm1 => ?_
        walk_at "go"
        rename_i tp H3 htp hs3 hn3 H4 hO4 hI4
        exact fin m tp H3 H4 hm0 hs3 hn3 hO4 hI4
      · walk_at "go"
        refine x_iteD (fun _ => ?_) (fun _ => ?_)
        · walk_at "go"
          refine x_lmix fun m0 _ _ => ?_
          walk_at "go"
          refine x_iteD (fun _ => ?_) (fun _ => ?_)
          · walk_at "go"
            refine x_lmix fun m hm0 hm1 => ?_
            walk_at "go"
            rename_i tp H3 htp hs3 hn3 H4 hO4 hI4
            exact fin m tp H3 H4 hm0 hs3 hn3 hO4 hI4
          · walk_at "go"
            exact non
        · walk_at "go"
          exact non
    · intro σ H' ⟨v, ws, is, hσ, hs', hp', hpl, hil, hie, hpw⟩
      subst hσ
      walk_at "go"
      exact q p ws is H' hs' hp hp' hpl ⟨fun e he => by
        have := hie e he
        omega, hpw⟩
/-- what the law keeps -/
structure St41 (T : Txt K mg) (H : Hp) (r : Addr) (ex : Option (V × V)) (P : PF) (t : Ts) (c : Cs) (k : Bk) (ca ba : Addr) (B : Int) (many : Nat) : Prop where
  st : GAt T T.C_Even ex H r P t c k
  hca : H ca = some (.lst (c.clr.map V.int))
  hba : H ba = some (.lst (c.broken.map V.bl))
  hb : c.b = B
  left : c.left = none
  log : c.log.length ≤ many
  nc : ca ∉ P.mut
  nb : ba ∉ P.mut
  ne : ca ≠ ba
theorem St41.mono {T : Txt K mg} {H H' : Hp} {r : Addr} {ex : Option (V × V)} {P : PF} {t : Ts} {c : Cs} {k : Bk} {ca ba : Addr} {B : Int} {many : Nat} (s : Same H H') (h : St41 T H r ex P t c k ca ba B many) : St41 T H' r ex P t c k ca ba B many :=
  ⟨h.st.mono s, s _ _ h.hca, s _ _ h.hba, h.hb, h.left, h.log, h.nc, h.nb, h.ne⟩
theorem wipe_place {c : Cs} {n : Int} (h0 : 0 ≤ n) (h1 : n < c.b) (hd : c.dark = false) (hb : c.broken.getD n.toNat false = false) :
    (c.wipeR (some n)).2 = if c.well n.toNat (decide (c.clr.getD n.toNat 0 = c.m)) = true then { c.said n.toNat true ("wipe", n) with clr := c.clr.set n.toNat (c.clr.getD n.toNat 0 + 1), stuff := blankN c.stuff (n.toNat * c.p.toNat) c.p.toNat } else c.said n.toNat false ("wipe", n) := by
  have hin : inB (some n) 0 (c.b - 1) = true := decide_eq_true ⟨h0, by omega⟩
  unfold Cs.wipeR
  rw [if_neg (by rw [hin]; decide), if_neg (by rw [hd]; decide)]
  simp only [Option.getD_some]
  rw [if_neg (by rw [hb]; decide)]
  split <;> rfl
theorem set_same {α : Type} {l : List α} {n : Nat} {d x : α} (h : l.getD n d = x) : l.set n x = l := by
  refine List.ext_getElem? fun i => ?_
  rw [List.getElem?_set]
  by_cases e : n = i
  · subst e
    rw [if_pos rfl]
    split
    · rename_i hl
      rw [List.getD_eq_getElem?_getD, List.getElem?_eq_getElem hl] at h
      rw [List.getElem?_eq_getElem hl]
      exact congrArg some h.symm
    · rename_i hl
      rw [List.getElem?_eq_none (by omega)]
  · rw [if_neg e]
def spLaw (K : PySem.W.Frag) : Sp := fun vs H Q _ => ∃ (a : Addr) (ns : List Int), vs = [.ref a] ∧ SqL K H a (ns.map V.int) ∧ ns.length ≤ 63 ∧ ∀ H', Q (.bl true) H'
theorem ok_law (T : Txt K mg) : FO P w K mg base 9 T.a_law T.fd_law ["_law_script"] (spLaw K) := by
  have sc := sc_law
  refine T.F_law.okX sc (fun vs H Q E h => ?_) (fun cdv A outer s H vs Q E hr h => ?_)
  · obtain ⟨a, ns, rfl, _⟩ := h
    rfl
  · obtain ⟨a, ns, rfl, hS, hl, q⟩ := h
    refine ⟨_, (pss_cons (ps_set (i := 1) sc.nd rfl (by first | exact Or.inl rfl | exact Or.inr rfl) (pe_op op_uAdd pe_int (pe_op op_mod (pe_callS (ok_cell_at T) (hr.mono (by decide)) (by rfl) T.g__law_cell_at T.k__law_cell_at T.bd__law_cell_at (passAt (takes_of rfl rfl rfl rfl)) (pa_cons (pv 0) (pa_cons pe_int pa_nil))) pe_int)))
      (pss_cons (ps_set (i := 2) sc.nd rfl (by first | exact Or.inl rfl | exact Or.inr rfl) (pe_op op_uAdd pe_int (pe_op op_mod (pe_callS (ok_cell_at T) (hr.mono (by decide)) (by rfl) T.g__law_cell_at T.k__law_cell_at T.bd__law_cell_at (passAt (takes_of rfl rfl rfl rfl)) (pa_cons (pv 0) (pa_cons pe_int pa_nil))) pe_int)))
      (pss_cons (ps_set (i := 3) sc.nd rfl (by first | exact Or.inl rfl | exact Or.inr rfl) (pe_mkS T.mk_Chip (ok_Chip_init T) (hr.mono (by decide)) (by rfl) T.g_Chip T.bd0_Chip_init T.dv0_Chip_init (passAt (takes_of rfl rfl rfl rfl)) (pa_cons (pv 1) (pa_cons (pv 2) (pa_cons pe_int (pa_cons (pe_callS (ok_ills T) (hr.mono (by decide)) (by rfl) T.g__law_ills T.k__law_ills T.bd__law_ills (passAt (takes_of rfl rfl rfl rfl)) (pa_cons (pv 0) (pa_cons (pv 1) pa_nil))) pa_nil))))))
      (pss_cons (ps_set (i := 4) sc.nd rfl (by first | exact Or.inl rfl | exact Or.inr rfl) (pe_mkS T.mk_Even (ok_Store_init T) (hr.mono (by decide)) (by rfl) T.g_Even T.bd_Store_init .nil (passAt (takes_of rfl rfl rfl rfl)) (pa_cons (pv 3) (pa_cons (pe_mkS T.mk_Terms (ok_Terms_init T) (hr.mono (by decide)) (by rfl) T.g_Terms T.bd2_Terms_init T.dv2_Terms_init (passAt (takes_of rfl rfl rfl rfl)) (pa_cons (pv 1) (pa_cons (pv 2) (pa_cons pe_int (pa_cons pe_int pa_nil))))) (pa_cons (pe_mkN T.mk0_Rule (by rfl) T.g_Rule) pa_nil)))))
      (pss_cons (ps_set (i := 5) sc.nd rfl (by first | exact Or.inl rfl | exact Or.inr rfl) (pe_op op_uMul (pe_lst (pa_cons pe_int pa_nil)) (pv 1)))
      (pss_cons (ps_set (i := 6) sc.nd rfl (by first | exact Or.inl rfl | exact Or.inr rfl) (pe_op op_uMul (pe_lst (pa_cons pe_bl pa_nil)) (pv 1)))
      (pss_cons (ps_for (passes_of rfl) rfl (pi_range2 (by rfl) T.b_range (pa_cons pe_int (pa_cons (pe_callB (cr_umin) (by rfl) T.b_min bt_min (pa_cons (pe_callB (cr_ulen) (by rfl) T.b_len bt_len (pa_cons (pv 0) pa_nil)) (pa_cons pe_int pa_nil))) pa_nil))) (pg_name (i := 7) sc.nd rfl (by first | exact Or.inl rfl | exact Or.inr rfl)) (pss_cons (ps_set (i := 8) sc.nd rfl (by first | exact Or.inl rfl | exact Or.inr rfl) (pe_op op_mod (pe_op op_fdivW (pe_ix ix_seq (pv 0) (pv 7) (fun _ _ => rfl)) pe_int) (pv 1)))
      (pss_cons (ps_for (passes_of rfl) rfl (pi_range1 (by rfl) T.b_range (pa_cons (pe_op op_uAdd pe_int (pe_op op_uMul pe_int (pe_op op_mod (pe_ix ix_seq (pv 0) (pv 7) (fun _ _ => rfl)) pe_int))) pa_nil)) (pg_name (i := 9) sc.nd rfl (by first | exact Or.inl rfl | exact Or.inr rfl)) (pss_one (ps_if (pt_not (pt_truth (pe_ix ix_seq (pv 6) (pv 8) (fun _ _ => rfl)) (by intro _; rfl))) (pss_one (ps_if (pt_truth (pe_callS (ok_wiped T) (hr.mono (by decide)) (by rfl) T.g__law_wiped T.k__law_wiped T.bd__law_wiped (passAt (takes_of rfl rfl rfl rfl)) (pa_cons (pv 3) (pa_cons (pv 8) pa_nil))) (by intro _; rfl)) (pss_one (ps_asg (pe_op op_uAdd (pe_ix ix_seq (pv 5) (pv 8) (fun _ _ => rfl)) pe_int) (pg_sub (pv 5) (pv 8) set_list))) (pss_one (ps_asg pe_bl (pg_sub (pv 6) (pv 8) set_list))))) pss_nil)))
      (pss_one (ps_if (PW.pt (pw_and (pt_cmpR (op_uEq hr.units) (pe_op op_mod (pe_ix ix_seq (pv 0) (pv 7) (fun _ _ => rfl)) pe_int) pe_int (nomark _)) (pw_and1 (pt_not (pt_truth (pe_callS (ok_right T) (hr.mono (by decide)) (by rfl) T.g__law_right T.k__law_right T.bd__law_right (passAt (takes_of rfl rfl rfl rfl)) (pa_cons (pv 4) (pa_cons (pv 5) (pa_cons (pv 6) pa_nil)))) (by intro _; rfl)))))) (pss_one (ps_ret pe_bl)) pss_nil)))))
      (pss_one (ps_ret (pe_andT (pe_callB (cr_uisinstance) (by rfl) T.b_isinstance bt_isinstance (pa_cons (pv 4) (pa_cons (pe_glob (v := .ref T.C_Store) rfl T.g_Store rfl) pa_nil))) (pe_andT (pe_callB (cr_uisinstance) (by rfl) T.b_isinstance bt_isinstance (pa_cons (pv 4) (pa_cons (pe_glob (v := .ref T.C_Plain) rfl T.g_Plain rfl) pa_nil))) (pe_one (pe_callS (ok_right T) (hr.mono (by decide)) (by rfl) T.g__law_right T.k__law_right T.bd__law_right (passAt (takes_of rfl rfl rfl rfl)) (pa_cons (pv 4) (pa_cons (pv 5) (pa_cons (pv 6) pa_nil)))))))))))))))), ?_⟩
    have hB : 2 ≤ 2 + cl ns 0 % 15 ∧ 2 + cl ns 0 % 15 ≤ 16 := by omega
    have hP0 : 3 ≤ 3 + cl ns 1 % 14 ∧ 3 + cl ns 1 % 14 ≤ 16 := by omega
    walk_at "begin"
    walk_at "go"
    generalize 2 + cl ns 0 % 15 = B at hB ⊢
    generalize 3 + cl ns 1 % 14 = P0 at hP0 ⊢
    have hP16 : 1 ≤ P0 ∧ P0 ≤ 16 := by omega
    refine ⟨a, ns, B, rfl, hS, hB, fun qi ws is H1 hs1 hq1 hn1 hpl hio => ?_⟩
    walk_at "go"
    rename_i x dx Hm hx hdx hne hsm hnm hdd
    refine x_cinitI hB hP16 ⟨by decide, by decide⟩ hx hsm hnm ((hpl.mono (TupS.of hsm)).ills (.inl (hsm _ _ hn1))) hio fun F H2 hs2 hF hC => ⟨rfl, ?_⟩
    have s02 := hs1.trans hs2
    have nF : ∀ b ∈ F.all x, H b = none := fun b hf => same_none hs1 (hF b hf)
    clear hsm hnm hdd hne hdx hs2 hs1 hn1 hpl
    walk_at "go"
    rename_i xt dxt Ht hxt hdxt hnet hst hnt hddt
    refine ⟨xt, dxt, _, _, _, _, _, _, some B, some P0, some 9, some 1, some 0, some 1000000, rfl, hnt, .int B, .int P0, .int 9, .int 1, .int 0, .int 1000000, .inl ⟨?_, fun H5 hO5 hT => ⟨rfl, ?_⟩⟩⟩
    · show (decide (2 ≤ B ∧ B ≤ 16) && decide (1 ≤ P0 ∧ P0 ≤ 16) && decide (1 ≤ (9 : Int) ∧ (9 : Int) ≤ 64) && decide (0 ≤ (0 : Int) ∧ (0 : Int) ≤ B - 2) && decide (1 ≤ (1000000 : Int) ∧ (1000000 : Int) ≤ 1000000) && decide (1 ≤ (1 : Int) ∧ (1 : Int) ≤ (B - 1 - 0) * P0 - 2)) = true
      have h3 : 1 * 3 ≤ (B - 1 - 0) * P0 := Int.mul_le_mul (by omega) (by omega) (by decide) (by omega)
      rw [decide_eq_true hB, decide_eq_true hP16, decide_eq_true (show 0 ≤ (0 : Int) ∧ (0 : Int) ≤ B - 2 by omega), decide_eq_true (show 1 ≤ (1 : Int) ∧ (1 : Int) ≤ (B - 1 - 0) * P0 - 2 by omega)]
      rfl
    obtain ⟨dt, hT⟩ := hT
    have hT' : H5 xt = some (.ins T.C_Terms dt (termF ⟨B, P0, 9, 1, 0, 1000000⟩)) := hT
    have s25 : Same H2 H5 := Off.same1 hst hO5 hxt
    have kxt := hC.fresh hxt
    have hC5 := hC.mono s25
    have s05 := s02.trans s25
    clear hO5 hst hnt hddt hnet hdxt hT hC
    walk_at "go"
    rename_i ru dru Hr hru hdru hner hsr hnr hdr xs dxs Hs hxs hdxs hnes hss hns hdds
    have s0r := s05.trans hsr
    have s0s := s0r.trans hss
    have hTs := hss _ _ (hsr _ _ hT')
    have hCs := (hC5.mono hsr).mono hss
    have nxF : xs ∉ F.all x := (hC5.mono hsr).fresh hxs
    refine ⟨T.C_Even, xs, dxs, x, F, xt, dt, ⟨B, P0, 9, 1, 0, 1000000⟩, _, .ref ru, rfl, VEven T, hns, hCs, hTs, rfl, rfl, nxF, (ne_of_none (hsr _ _ hT') hxs).symm, kxt, fun rb fb pa H6 hO6 hF6 hpa hnpa npa hP6 => ⟨rfl, ?_⟩⟩
    have s06 : Same H H6 := Off.same1 s0s hO6 (same_none s0r hxs)
    obtain ⟨PP, hPP⟩ : ∃ PP : PF, PP = ⟨dxs, x, F, xt, dt, rb, fb⟩ := ⟨_, rfl⟩
    rw [← hPP] at hP6
    have nP : ∀ b ∈ PP.mut, H b = none := fun b hf => by
      rw [hPP] at hf
      rcases List.mem_append.mp hf with hf | hf
      · exact nF b hf
      · exact same_none s0s (hF6 b hf)
    have erc : PP.rc = x := by rw [hPP]
    have efc : PP.fc = F := by rw [hPP]
    have zz : ∀ n : Nat, (List.replicate n (V.int 0)) = (List.replicate n (0 : Int)).map V.int := fun n => by rw [List.map_replicate]
    have zb : ∀ n : Nat, (List.replicate n (V.bl false)) = (List.replicate n false).map V.bl := fun n => by rw [List.map_replicate]
    clear hO6 hdds hnes hdxs hns hss hdr hner hdru hsr s0s s0r hCs hTs hC5 hT' s05 s25 s02 hnr nxF kxt hnpa hPP hF6
    walk_at "go"
    rename_i y1 A1 hy1 sy1 ny1 ca A2 hca sca nca z1 A3 hz1 sz1 nz1 ba A4 hba sba nba
    have hS4 := ((s06.trans (sy1.trans sca)).trans (sz1.trans sba)).seq hS
    refine x_seq ?_
    walk_at "go"
    have hlen : (if (44 : Int) < ((ns.length : Nat) : Int) then (44 : Int) else (ns.length : Int)) ≤ 44 ∧ (if (44 : Int) < ((ns.length : Nat) : Int) then (44 : Int) else (ns.length : Int)) ≤ ns.length ∧ 0 ≤ (if (44 : Int) < ((ns.length : Nat) : Int) then (44 : Int) else (ns.length : Int)) := by split <;> omega
    generalize (if (44 : Int) < ((ns.length : Nat) : Int) then (44 : Int) else (ns.length : Int)) = L at hlen ⊢
    have s62 := sy1.trans sca
    have s64 := s62.trans (sz1.trans sba)
    have kca : ca ∉ PP.mut := (hP6.mono sy1).fresh hca
    have kba : ba ∉ PP.mut := ((hP6.mono s62).mono sz1).fresh hba
    have kab : ca ≠ ba := ne_of_none (sz1 _ _ nca) hba
    have nca0 : H ca = none := same_none (s06.trans sy1) hca
    have nba0 : H ba = none := same_none ((s06.trans s62).trans sz1) hba
    have st4 : St41 T A4 xs (some (.ref ru, .ref pa)) PP ⟨B, P0, 9, 1, 0, 1000000⟩ (Cs.new B P0 1000000 (lastsI B is)) (Bk.new B P0) ca ba B 0 :=
      ⟨hP6.mono s64, by show A4 ca = some (.lst ((List.replicate B.toNat (0 : Int)).map V.int)); rw [← zz]; exact (sz1.trans sba) _ _ nca, by show A4 ba = some (.lst ((List.replicate B.toNat false).map V.bl)); rw [← zb]; exact nba, rfl, rfl, Nat.le_refl _, kca, kba, kab⟩
    have s04 := s06.trans s64
    clear s06 s62 s64 sy1 sca sz1 sba nca nba ny1 nz1 hy1 hz1 hca hba hP6
    have nS : ∀ b ∈ ca :: ba :: F.all x, H b = none := fun b hb => by
      rcases List.mem_cons.mp hb with rfl | hb
      · exact nca0
      rcases List.mem_cons.mp hb with rfl | hb
      · exact nba0
      · exact nF b hb
    refine x_frR2 (by omega) (fun i σ H' => ∃ (v7 v8 v9 : Option V) (c : Cs), σ = [some (.ref a), some (.int B), some (.int P0), some (.ref x), some (.ref xs), some (.ref ca), some (.ref ba), v7, v8, v9] ∧ Same H H' ∧ St41 T H' xs (some (.ref ru, .ref pa)) PP ⟨B, P0, 9, 1, 0, 1000000⟩ c (Bk.new B P0) ca ba B (3 * i))
      ⟨_, _, _, _, rfl, s04, st4⟩ ?_ ?_
    · intro i σ H5 hi ⟨v7, v8, v9, c, hσ, s05, st5⟩
      subst hσ
      have hS5 := s05.seq hS
      have hk : 0 ≤ 4 + (i : Int) ∧ 4 + (i : Int) < ns.length := by omega
      walk_at "go"
      generalize ns.getD (4 + (i : Int)).toNat 0 = w0
      have hn : 0 ≤ w0 / 6 % B ∧ w0 / 6 % B < B := ⟨Int.emod_nonneg _ (by omega), Int.emod_lt_of_pos _ (by omega)⟩
      generalize w0 / 6 % B = n at hn ⊢
      have hs0 : (2 : Int).natAbs < 2 ^ 250 ∧ (ns.getD (4 + (i : Int)).toNat 0 % 2).natAbs < 2 ^ 250 := ⟨by decide, by omega⟩
      refine x_seq ?_
      walk_at "go"
      have hw3 : 1 ≤ 1 + 2 * (ns.getD (4 + (i : Int)).toNat 0 % 2) ∧ 1 + 2 * (ns.getD (4 + (i : Int)).toNat 0 % 2) ≤ 3 := by omega
      generalize 1 + 2 * (ns.getD (4 + (i : Int)).toNat 0 % 2) = M0 at hw3 ⊢
      refine x_frR1 (by omega) (fun j σ H' => ∃ (v9 : Option V) (c : Cs), σ = [some (.ref a), some (.int B), some (.int P0), some (.ref x), some (.ref xs), some (.ref ca), some (.ref ba), some (.int (4 + (i : Int))), some (.int n), v9] ∧ Same H H' ∧ St41 T H' xs (some (.ref ru, .ref pa)) PP ⟨B, P0, 9, 1, 0, 1000000⟩ c (Bk.new B P0) ca ba B (3 * i + j))
        ⟨_, _, rfl, s05, st5⟩ ?_ ?_
      · intro j σ H6 hj ⟨v9, c, hσ, s06, st6⟩
        subst hσ
        have hba6 := st6.hba
        have hca6 := st6.hca
        have zbr := st6.st.chip.sz.broken
        have zcl := st6.st.chip.sz.clr
        have ecb := st6.hb
        have hC6 : ChipAt T.C_Chip H6 x F c := by
          have := st6.st.chip
          rw [erc, efc] at this
          exact this
        walk_at "go"
        refine x_iteB (fun hbk => ?_) (fun hbk => ?_)
        · walk_at "go"
          exact ⟨_, c, rfl, s06, st6.st, st6.hca, st6.hba, st6.hb, st6.left, Nat.le_succ_of_le st6.log, st6.nc, st6.nb, st6.ne⟩
        · walk_at "go"
          have hdk : c.dark = false := by unfold Cs.dark; rw [st6.left]; rfl
          refine ⟨x, F, c, n, rfl, hC6, ⟨hn.1, by omega⟩, hdk, hbk, by have := st6.log; omega, fun H7 hO7 hC7 => ?_⟩
          rw [wipe_place hn.1 (by omega) hdk hbk] at hC7
          have s07 : Same H H7 := Off.same s06 hO7 nF
          have kca7 : ca ∉ F.all x := fun z => st6.nc (by rw [← erc, ← efc] at z; exact List.mem_append_left _ z)
          have kba7 : ba ∉ F.all x := fun z => st6.nb (by rw [← erc, ← efc] at z; exact List.mem_append_left _ z)
          have hca7 := hO7.at hca6 kca7
          have hba7 := hO7.at hba6 kba7
          have hO7' : Off (PP.fc.all PP.rc) H6 H7 := by rw [erc, efc]; exact hO7
          clear hO7
          cases hw : c.well n.toNat (decide (c.clr.getD n.toNat 0 = c.m)) with
          | true =>
            rw [if_pos hw] at hC7
            have hP7 := st6.st.chipC (c' := { c.said n.toNat true ("wipe", n) with clr := c.clr.set n.toNat (c.clr.getD n.toNat 0 + 1), stuff := blankN c.stuff (n.toNat * c.p.toNat) c.p.toNat }) hO7' (by rw [erc, efc]; exact hC7) ⟨rfl, rfl⟩
            walk_at "go"
            rename_i H8 hO8 hI8
            have tt : TupS H7 H8 := hO8.tupsL hca7
            have hxs7 := (st6.st.chipC (c' := { c.said n.toNat true ("wipe", n) with clr := c.clr.set n.toNat (c.clr.getD n.toNat 0 + 1), stuff := blankN c.stuff (n.toNat * c.p.toNat) c.p.toNat }) hO7' (by rw [erc, efc]; exact hC7) ⟨rfl, rfl⟩).obj
            refine ⟨_, _, rfl, Off.same1 s07 hO8 nca0, hP7.off hO8 (fun b hb => nin_of (fun z => st6.nc (z ▸ hb))) (nin_of (fun z => ?_)) (nin_of (fun z => ?_)) tt, ?_, ?_, st6.hb, ?_, ?_, st6.nc, st6.nb, st6.ne⟩
            · rw [z, hca7] at hxs7
              cases hxs7
            · have := hP7.terms
              rw [z, hca7] at this
              cases this
            · show H8 ca = some (.lst ((c.clr.set n.toNat (c.clr.getD n.toNat 0 + 1)).map V.int))
              rw [List.map_set]
              exact hI8
            · show H8 ba = some (.lst ((c.broken.set n.toNat (!true)).map V.bl))
              rw [show (!true) = false from rfl, set_same hbk]
              exact hO8.at hba7 (nin_of st6.ne.symm)
            · show c.left.map (· - 1) = none
              rw [st6.left]
              rfl
            · show (c.log ++ [_]).length ≤ _
              rw [List.length_append, List.length_singleton]
              have := st6.log
              omega
          | false =>
            rw [if_neg (by rw [hw]; decide)] at hC7
            have hP7 := st6.st.chipC (c' := c.said n.toNat false ("wipe", n)) hO7' (by rw [erc, efc]; exact hC7) ⟨rfl, rfl⟩
            walk_at "go"
            rename_i H8 hO8 hI8
            have tt : TupS H7 H8 := hO8.tupsL hba7
            have hxs7 := hP7.obj
            refine ⟨_, _, rfl, Off.same1 s07 hO8 nba0, hP7.off hO8 (fun b hb => nin_of (fun z => st6.nb (z ▸ hb))) (nin_of (fun z => ?_)) (nin_of (fun z => ?_)) tt, ?_, ?_, st6.hb, ?_, ?_, st6.nc, st6.nb, st6.ne⟩
            · rw [z, hba7] at hxs7
              cases hxs7
            · have := hP7.terms
              rw [z, hba7] at this
              cases this
            · exact hO8.at hca7 (nin_of st6.ne)
            · show H8 ba = some (.lst ((c.broken.set n.toNat (!false)).map V.bl))
              rw [List.map_set]
              exact hI8
            · show c.left.map (· - 1) = none
              rw [st6.left]
              rfl
            · show (c.log ++ [_]).length ≤ _
              rw [List.length_append, List.length_singleton]
              have := st6.log
              omega
      · intro σ H6 ⟨v9, c, hσ, s06, st6⟩
        subst hσ
        have hS6 := s06.seq hS
        have st7 : St41 T H6 xs (some (.ref ru, .ref pa)) PP ⟨B, P0, 9, 1, 0, 1000000⟩ c (Bk.new B P0) ca ba B (3 * (i + 1)) := ⟨st6.st, st6.hca, st6.hba, st6.hb, st6.left, by have := st6.log; omega, st6.nc, st6.nb, st6.ne⟩
        dsimp only
        walk_at "go"
        refine x_iteD (fun _ => ?_) (fun _ => ?_)
        · walk_at "go"
          refine ⟨_, xs, ca, ba, PP, _, c, _, rfl, st6.st, st6.hca, st6.hba, fun H7 hs7 => ?_⟩
          walk_at "go"
          exact ⟨_, _, _, c, rfl, s06.trans hs7, st7.mono hs7⟩
        · walk_at "go"
          exact ⟨_, _, _, c, rfl, s06, st7⟩
    · intro σ H5 ⟨v7, v8, v9, c, hσ, s05, st5⟩
      subst hσ
      have ho5 := st5.st.obj
      dsimp only
      walk_at "go"
      refine x_isI ho5 T.cl_Even T.ic_Even T.kn_Even_Store ?_
      walk_at "go"
      refine x_isI ho5 T.cl_Even T.ic_Even T.kn_Even_Plain ?_
      walk_at "go"
      exact ⟨_, xs, ca, ba, PP, _, c, _, rfl, st5.st, st5.hca, st5.hba, fun H7 hs7 => q H7⟩
end

def fsK0 (K : PySem.W.Frag) (A : List Addr) : Bool := decide (PySem.W.nsIn K mainGlobals "mark_of" = some (some (.ref (A.getD 40 0)))) && (decide (PySem.W.nsIn K mainGlobals "bits_of" = some (some (.ref (A.getD 41 0)))) && (decide (PySem.W.nsIn K mainGlobals "is_whole" = some (some (.ref (A.getD 50 0)))) && (decide (PySem.W.nsIn K mainGlobals "is_within" = some (some (.ref (A.getD 51 0)))) && (decide (PySem.W.nsIn K mainGlobals "blocks_taken" = some (some (.ref (A.getD 79 0)))) && (decide (PySem.W.nsIn K mainGlobals "endurance" = some (some (.ref (A.getD 87 0)))) && (decide (PySem.W.nsIn K mainGlobals "_law_cell_at" = some (some (.ref (A.getD 105 0)))) && (decide (PySem.W.nsIn K mainGlobals "_law_whole" = some (some (.ref (A.getD 106 0)))) && (decide (PySem.W.nsIn K mainGlobals "_law_mix" = some (some (.ref (A.getD 107 0)))) && (decide (PySem.W.nsIn K mainGlobals "_law_ills" = some (some (.ref (A.getD 108 0)))) && (decide (PySem.W.nsIn K mainGlobals "_law_wiped" = some (some (.ref (A.getD 109 0)))) && (decide (PySem.W.nsIn K mainGlobals "_law_due" = some (some (.ref (A.getD 110 0)))) && (decide (PySem.W.nsIn K mainGlobals "_law_right" = some (some (.ref (A.getD 111 0)))) && (decide (PySem.W.nsIn K mainGlobals "law" = some (some (.ref (A.getD 112 0)))) && (decide (PySem.W.nsIn K mainGlobals "Book" = some (some (.ref (A.getD 2 0)))) && (PySem.W.plainGet K (A.getD 2 0) Str.empty && (PySem.W.hasDictIn K (A.getD 2 0) && (PySem.W.plainOver K (A.getD 2 0) && (decide (PySem.W.findIn K (.ref (A.getD 2 0)) "__setattr__" = some (some (.builtin "object.__setattr__"))) && (decide (PySem.W.findIn K (.ref (A.getD 2 0)) "blocks" = some none) && (decide (PySem.W.findIn K (.ref (A.getD 2 0)) "pages" = some none) && (decide (PySem.W.findIn K (.ref (A.getD 2 0)) "where" = some none) && (decide (PySem.W.findIn K (.ref (A.getD 2 0)) "names" = some none) && (decide (PySem.W.findIn K (.ref (A.getD 2 0)) "live" = some none) && (decide (PySem.W.findIn K (.ref (A.getD 2 0)) "filled" = some none)))))))))))))))))))))))))
theorem fsK0_ok {K : PySem.W.Frag} {A : List Addr} (h : fsK0 K A = true) : (PySem.W.nsIn K mainGlobals "mark_of" = some (some (.ref (A.getD 40 0)))) ∧ (PySem.W.nsIn K mainGlobals "bits_of" = some (some (.ref (A.getD 41 0)))) ∧ (PySem.W.nsIn K mainGlobals "is_whole" = some (some (.ref (A.getD 50 0)))) ∧ (PySem.W.nsIn K mainGlobals "is_within" = some (some (.ref (A.getD 51 0)))) ∧ (PySem.W.nsIn K mainGlobals "blocks_taken" = some (some (.ref (A.getD 79 0)))) ∧ (PySem.W.nsIn K mainGlobals "endurance" = some (some (.ref (A.getD 87 0)))) ∧ (PySem.W.nsIn K mainGlobals "_law_cell_at" = some (some (.ref (A.getD 105 0)))) ∧ (PySem.W.nsIn K mainGlobals "_law_whole" = some (some (.ref (A.getD 106 0)))) ∧ (PySem.W.nsIn K mainGlobals "_law_mix" = some (some (.ref (A.getD 107 0)))) ∧ (PySem.W.nsIn K mainGlobals "_law_ills" = some (some (.ref (A.getD 108 0)))) ∧ (PySem.W.nsIn K mainGlobals "_law_wiped" = some (some (.ref (A.getD 109 0)))) ∧ (PySem.W.nsIn K mainGlobals "_law_due" = some (some (.ref (A.getD 110 0)))) ∧ (PySem.W.nsIn K mainGlobals "_law_right" = some (some (.ref (A.getD 111 0)))) ∧ (PySem.W.nsIn K mainGlobals "law" = some (some (.ref (A.getD 112 0)))) ∧ (PySem.W.nsIn K mainGlobals "Book" = some (some (.ref (A.getD 2 0)))) ∧ (PySem.W.plainGet K (A.getD 2 0) Str.empty = true) ∧ (PySem.W.hasDictIn K (A.getD 2 0) = true) ∧ (PySem.W.plainOver K (A.getD 2 0) = true) ∧ (PySem.W.findIn K (.ref (A.getD 2 0)) "__setattr__" = some (some (.builtin "object.__setattr__"))) ∧ (PySem.W.findIn K (.ref (A.getD 2 0)) "blocks" = some none) ∧ (PySem.W.findIn K (.ref (A.getD 2 0)) "pages" = some none) ∧ (PySem.W.findIn K (.ref (A.getD 2 0)) "where" = some none) ∧ (PySem.W.findIn K (.ref (A.getD 2 0)) "names" = some none) ∧ (PySem.W.findIn K (.ref (A.getD 2 0)) "live" = some none) ∧ (PySem.W.findIn K (.ref (A.getD 2 0)) "filled" = some none) := by
  unfold fsK0 at h
  obtain ⟨h0, h⟩ := He.ba h
  obtain ⟨h1, h⟩ := He.ba h
  obtain ⟨h2, h⟩ := He.ba h
  obtain ⟨h3, h⟩ := He.ba h
  obtain ⟨h4, h⟩ := He.ba h
  obtain ⟨h5, h⟩ := He.ba h
  obtain ⟨h6, h⟩ := He.ba h
  obtain ⟨h7, h⟩ := He.ba h
  obtain ⟨h8, h⟩ := He.ba h
  obtain ⟨h9, h⟩ := He.ba h
  obtain ⟨h10, h⟩ := He.ba h
  obtain ⟨h11, h⟩ := He.ba h
  obtain ⟨h12, h⟩ := He.ba h
  obtain ⟨h13, h⟩ := He.ba h
  obtain ⟨h14, h⟩ := He.ba h
  obtain ⟨h15, h⟩ := He.ba h
  obtain ⟨h16, h⟩ := He.ba h
  obtain ⟨h17, h⟩ := He.ba h
  obtain ⟨h18, h⟩ := He.ba h
  obtain ⟨h19, h⟩ := He.ba h
  obtain ⟨h20, h⟩ := He.ba h
  obtain ⟨h21, h⟩ := He.ba h
  obtain ⟨h22, h⟩ := He.ba h
  obtain ⟨h23, h⟩ := He.ba h
  exact ⟨of_decide_eq_true h0, of_decide_eq_true h1, of_decide_eq_true h2, of_decide_eq_true h3, of_decide_eq_true h4, of_decide_eq_true h5, of_decide_eq_true h6, of_decide_eq_true h7, of_decide_eq_true h8, of_decide_eq_true h9, of_decide_eq_true h10, of_decide_eq_true h11, of_decide_eq_true h12, of_decide_eq_true h13, of_decide_eq_true h14, h15, h16, h17, of_decide_eq_true h18, of_decide_eq_true h19, of_decide_eq_true h20, of_decide_eq_true h21, of_decide_eq_true h22, of_decide_eq_true h23, of_decide_eq_true h⟩
def fsK1 (K : PySem.W.Frag) (A : List Addr) : Bool := decide (PySem.W.findIn K (.ref (A.getD 2 0)) "born" = some none) && (decide (PySem.W.findIn K (.ref (A.getD 2 0)) "stamp" = some none) && (decide (PySem.W.findIn K (.ref (A.getD 2 0)) "__init__" = some (some (.ref (A.getD 42 0)))) && (PySem.W.isFn K (.ref (A.getD 42 0)) && (PySem.W.makesIn K (A.getD 2 0) && (PySem.W.keepIn K (.ref (A.getD 2 0)) && (decide (PySem.W.findIn K (.ref (A.getD 2 0)) "mark" = some (some (.ref (A.getD 43 0)))) && (PySem.W.isFn K (.ref (A.getD 43 0)) && (decide (PySem.W.findIn K (.ref (A.getD 2 0)) "note" = some (some (.ref (A.getD 44 0)))) && (PySem.W.isFn K (.ref (A.getD 44 0)) && (decide (PySem.W.findIn K (.ref (A.getD 2 0)) "forget" = some (some (.ref (A.getD 45 0)))) && (PySem.W.isFn K (.ref (A.getD 45 0)) && (decide (PySem.W.findIn K (.ref (A.getD 2 0)) "emptied" = some (some (.ref (A.getD 46 0)))) && (PySem.W.isFn K (.ref (A.getD 46 0)) && (decide (PySem.W.findIn K (.ref (A.getD 2 0)) "live_pages" = some (some (.ref (A.getD 47 0)))) && (PySem.W.isFn K (.ref (A.getD 47 0)) && (decide (PySem.W.findIn K (.ref (A.getD 2 0)) "held" = some (some (.ref (A.getD 48 0)))) && (PySem.W.isFn K (.ref (A.getD 48 0)) && (decide (PySem.W.findIn K (.ref (A.getD 2 0)) "tell" = some (some (.ref (A.getD 49 0)))) && (PySem.W.isFn K (.ref (A.getD 49 0)) && (decide (PySem.W.nsIn K mainGlobals "Plain" = some (some (.ref (A.getD 3 0)))) && (PySem.W.plainGet K (A.getD 3 0) Str.empty && (PySem.W.hasDictIn K (A.getD 3 0) && (PySem.W.plainOver K (A.getD 3 0) && (decide (PySem.W.findIn K (.ref (A.getD 3 0)) "__setattr__" = some (some (.builtin "object.__setattr__")))))))))))))))))))))))))))
theorem fsK1_ok {K : PySem.W.Frag} {A : List Addr} (h : fsK1 K A = true) : (PySem.W.findIn K (.ref (A.getD 2 0)) "born" = some none) ∧ (PySem.W.findIn K (.ref (A.getD 2 0)) "stamp" = some none) ∧ (PySem.W.findIn K (.ref (A.getD 2 0)) "__init__" = some (some (.ref (A.getD 42 0)))) ∧ (PySem.W.isFn K (.ref (A.getD 42 0)) = true) ∧ (PySem.W.makesIn K (A.getD 2 0) = true) ∧ (PySem.W.keepIn K (.ref (A.getD 2 0)) = true) ∧ (PySem.W.findIn K (.ref (A.getD 2 0)) "mark" = some (some (.ref (A.getD 43 0)))) ∧ (PySem.W.isFn K (.ref (A.getD 43 0)) = true) ∧ (PySem.W.findIn K (.ref (A.getD 2 0)) "note" = some (some (.ref (A.getD 44 0)))) ∧ (PySem.W.isFn K (.ref (A.getD 44 0)) = true) ∧ (PySem.W.findIn K (.ref (A.getD 2 0)) "forget" = some (some (.ref (A.getD 45 0)))) ∧ (PySem.W.isFn K (.ref (A.getD 45 0)) = true) ∧ (PySem.W.findIn K (.ref (A.getD 2 0)) "emptied" = some (some (.ref (A.getD 46 0)))) ∧ (PySem.W.isFn K (.ref (A.getD 46 0)) = true) ∧ (PySem.W.findIn K (.ref (A.getD 2 0)) "live_pages" = some (some (.ref (A.getD 47 0)))) ∧ (PySem.W.isFn K (.ref (A.getD 47 0)) = true) ∧ (PySem.W.findIn K (.ref (A.getD 2 0)) "held" = some (some (.ref (A.getD 48 0)))) ∧ (PySem.W.isFn K (.ref (A.getD 48 0)) = true) ∧ (PySem.W.findIn K (.ref (A.getD 2 0)) "tell" = some (some (.ref (A.getD 49 0)))) ∧ (PySem.W.isFn K (.ref (A.getD 49 0)) = true) ∧ (PySem.W.nsIn K mainGlobals "Plain" = some (some (.ref (A.getD 3 0)))) ∧ (PySem.W.plainGet K (A.getD 3 0) Str.empty = true) ∧ (PySem.W.hasDictIn K (A.getD 3 0) = true) ∧ (PySem.W.plainOver K (A.getD 3 0) = true) ∧ (PySem.W.findIn K (.ref (A.getD 3 0)) "__setattr__" = some (some (.builtin "object.__setattr__"))) := by
  unfold fsK1 at h
  obtain ⟨h0, h⟩ := He.ba h
  obtain ⟨h1, h⟩ := He.ba h
  obtain ⟨h2, h⟩ := He.ba h
  obtain ⟨h3, h⟩ := He.ba h
  obtain ⟨h4, h⟩ := He.ba h
  obtain ⟨h5, h⟩ := He.ba h
  obtain ⟨h6, h⟩ := He.ba h
  obtain ⟨h7, h⟩ := He.ba h
  obtain ⟨h8, h⟩ := He.ba h
  obtain ⟨h9, h⟩ := He.ba h
  obtain ⟨h10, h⟩ := He.ba h
  obtain ⟨h11, h⟩ := He.ba h
  obtain ⟨h12, h⟩ := He.ba h
  obtain ⟨h13, h⟩ := He.ba h
  obtain ⟨h14, h⟩ := He.ba h
  obtain ⟨h15, h⟩ := He.ba h
  obtain ⟨h16, h⟩ := He.ba h
  obtain ⟨h17, h⟩ := He.ba h
  obtain ⟨h18, h⟩ := He.ba h
  obtain ⟨h19, h⟩ := He.ba h
  obtain ⟨h20, h⟩ := He.ba h
  obtain ⟨h21, h⟩ := He.ba h
  obtain ⟨h22, h⟩ := He.ba h
  obtain ⟨h23, h⟩ := He.ba h
  exact ⟨of_decide_eq_true h0, of_decide_eq_true h1, of_decide_eq_true h2, h3, h4, h5, of_decide_eq_true h6, h7, of_decide_eq_true h8, h9, of_decide_eq_true h10, h11, of_decide_eq_true h12, h13, of_decide_eq_true h14, h15, of_decide_eq_true h16, h17, of_decide_eq_true h18, h19, of_decide_eq_true h20, h21, h22, h23, of_decide_eq_true h⟩
def fsK2 (K : PySem.W.Frag) (A : List Addr) : Bool := decide (PySem.W.findIn K (.ref (A.getD 3 0)) "chip" = some none) && (decide (PySem.W.findIn K (.ref (A.getD 3 0)) "terms" = some none) && (decide (PySem.W.findIn K (.ref (A.getD 3 0)) "book" = some none) && (decide (PySem.W.findIn K (.ref (A.getD 3 0)) "__init__" = some (some (.ref (A.getD 52 0)))) && (PySem.W.isFn K (.ref (A.getD 52 0)) && (PySem.W.makesIn K (A.getD 3 0) && (PySem.W.keepIn K (.ref (A.getD 3 0)) && (decide (PySem.W.findIn K (.ref (A.getD 3 0)) "good" = some (some (.ref (A.getD 53 0)))) && (PySem.W.isFn K (.ref (A.getD 53 0)) && (decide (PySem.W.findIn K (.ref (A.getD 3 0)) "free" = some (some (.ref (A.getD 54 0)))) && (PySem.W.isFn K (.ref (A.getD 54 0)) && (decide (PySem.W.findIn K (.ref (A.getD 3 0)) "part" = some (some (.ref (A.getD 55 0)))) && (PySem.W.isFn K (.ref (A.getD 55 0)) && (decide (PySem.W.findIn K (.ref (A.getD 3 0)) "spot" = some (some (.ref (A.getD 56 0)))) && (PySem.W.isFn K (.ref (A.getD 56 0)) && (decide (PySem.W.findIn K (.ref (A.getD 3 0)) "reserve" = some (some (.ref (A.getD 57 0)))) && (PySem.W.isFn K (.ref (A.getD 57 0)) && (decide (PySem.W.findIn K (.ref (A.getD 3 0)) "ready" = some (some (.ref (A.getD 58 0)))) && (PySem.W.isFn K (.ref (A.getD 58 0)) && (decide (PySem.W.findIn K (.ref (A.getD 3 0)) "make_ready" = some (some (.ref (A.getD 59 0)))) && (PySem.W.isFn K (.ref (A.getD 59 0)) && (decide (PySem.W.findIn K (.ref (A.getD 3 0)) "set_down" = some (some (.ref (A.getD 60 0)))) && (PySem.W.isFn K (.ref (A.getD 60 0)) && (decide (PySem.W.findIn K (.ref (A.getD 3 0)) "lay" = some (some (.ref (A.getD 61 0)))) && (PySem.W.isFn K (.ref (A.getD 61 0))))))))))))))))))))))))))
theorem fsK2_ok {K : PySem.W.Frag} {A : List Addr} (h : fsK2 K A = true) : (PySem.W.findIn K (.ref (A.getD 3 0)) "chip" = some none) ∧ (PySem.W.findIn K (.ref (A.getD 3 0)) "terms" = some none) ∧ (PySem.W.findIn K (.ref (A.getD 3 0)) "book" = some none) ∧ (PySem.W.findIn K (.ref (A.getD 3 0)) "__init__" = some (some (.ref (A.getD 52 0)))) ∧ (PySem.W.isFn K (.ref (A.getD 52 0)) = true) ∧ (PySem.W.makesIn K (A.getD 3 0) = true) ∧ (PySem.W.keepIn K (.ref (A.getD 3 0)) = true) ∧ (PySem.W.findIn K (.ref (A.getD 3 0)) "good" = some (some (.ref (A.getD 53 0)))) ∧ (PySem.W.isFn K (.ref (A.getD 53 0)) = true) ∧ (PySem.W.findIn K (.ref (A.getD 3 0)) "free" = some (some (.ref (A.getD 54 0)))) ∧ (PySem.W.isFn K (.ref (A.getD 54 0)) = true) ∧ (PySem.W.findIn K (.ref (A.getD 3 0)) "part" = some (some (.ref (A.getD 55 0)))) ∧ (PySem.W.isFn K (.ref (A.getD 55 0)) = true) ∧ (PySem.W.findIn K (.ref (A.getD 3 0)) "spot" = some (some (.ref (A.getD 56 0)))) ∧ (PySem.W.isFn K (.ref (A.getD 56 0)) = true) ∧ (PySem.W.findIn K (.ref (A.getD 3 0)) "reserve" = some (some (.ref (A.getD 57 0)))) ∧ (PySem.W.isFn K (.ref (A.getD 57 0)) = true) ∧ (PySem.W.findIn K (.ref (A.getD 3 0)) "ready" = some (some (.ref (A.getD 58 0)))) ∧ (PySem.W.isFn K (.ref (A.getD 58 0)) = true) ∧ (PySem.W.findIn K (.ref (A.getD 3 0)) "make_ready" = some (some (.ref (A.getD 59 0)))) ∧ (PySem.W.isFn K (.ref (A.getD 59 0)) = true) ∧ (PySem.W.findIn K (.ref (A.getD 3 0)) "set_down" = some (some (.ref (A.getD 60 0)))) ∧ (PySem.W.isFn K (.ref (A.getD 60 0)) = true) ∧ (PySem.W.findIn K (.ref (A.getD 3 0)) "lay" = some (some (.ref (A.getD 61 0)))) ∧ (PySem.W.isFn K (.ref (A.getD 61 0)) = true) := by
  unfold fsK2 at h
  obtain ⟨h0, h⟩ := He.ba h
  obtain ⟨h1, h⟩ := He.ba h
  obtain ⟨h2, h⟩ := He.ba h
  obtain ⟨h3, h⟩ := He.ba h
  obtain ⟨h4, h⟩ := He.ba h
  obtain ⟨h5, h⟩ := He.ba h
  obtain ⟨h6, h⟩ := He.ba h
  obtain ⟨h7, h⟩ := He.ba h
  obtain ⟨h8, h⟩ := He.ba h
  obtain ⟨h9, h⟩ := He.ba h
  obtain ⟨h10, h⟩ := He.ba h
  obtain ⟨h11, h⟩ := He.ba h
  obtain ⟨h12, h⟩ := He.ba h
  obtain ⟨h13, h⟩ := He.ba h
  obtain ⟨h14, h⟩ := He.ba h
  obtain ⟨h15, h⟩ := He.ba h
  obtain ⟨h16, h⟩ := He.ba h
  obtain ⟨h17, h⟩ := He.ba h
  obtain ⟨h18, h⟩ := He.ba h
  obtain ⟨h19, h⟩ := He.ba h
  obtain ⟨h20, h⟩ := He.ba h
  obtain ⟨h21, h⟩ := He.ba h
  obtain ⟨h22, h⟩ := He.ba h
  obtain ⟨h23, h⟩ := He.ba h
  exact ⟨of_decide_eq_true h0, of_decide_eq_true h1, of_decide_eq_true h2, of_decide_eq_true h3, h4, h5, h6, of_decide_eq_true h7, h8, of_decide_eq_true h9, h10, of_decide_eq_true h11, h12, of_decide_eq_true h13, h14, of_decide_eq_true h15, h16, of_decide_eq_true h17, h18, of_decide_eq_true h19, h20, of_decide_eq_true h21, h22, of_decide_eq_true h23, h⟩
def fsK3 (K : PySem.W.Frag) (A : List Addr) : Bool := decide (PySem.W.findIn K (.ref (A.getD 3 0)) "need_sheet" = some (some (.ref (A.getD 62 0)))) && (PySem.W.isFn K (.ref (A.getD 62 0)) && (decide (PySem.W.findIn K (.ref (A.getD 3 0)) "write" = some (some (.ref (A.getD 63 0)))) && (PySem.W.isFn K (.ref (A.getD 63 0)) && (decide (PySem.W.findIn K (.ref (A.getD 3 0)) "read" = some (some (.ref (A.getD 64 0)))) && (PySem.W.isFn K (.ref (A.getD 64 0)) && (decide (PySem.W.findIn K (.ref (A.getD 3 0)) "held" = some (some (.ref (A.getD 65 0)))) && (PySem.W.isFn K (.ref (A.getD 65 0)) && (decide (PySem.W.nsIn K mainGlobals "Store" = some (some (.ref (A.getD 4 0)))) && (PySem.W.plainGet K (A.getD 4 0) Str.empty && (PySem.W.hasDictIn K (A.getD 4 0) && (PySem.W.plainOver K (A.getD 4 0) && (decide (PySem.W.findIn K (.ref (A.getD 4 0)) "__setattr__" = some (some (.builtin "object.__setattr__"))) && (decide (PySem.W.findIn K (.ref (A.getD 4 0)) "rule" = some none) && (decide (PySem.W.findIn K (.ref (A.getD 4 0)) "papers" = some none) && (decide (PySem.W.findIn K (.ref (A.getD 4 0)) "chip" = some none) && (decide (PySem.W.findIn K (.ref (A.getD 4 0)) "terms" = some none) && (decide (PySem.W.findIn K (.ref (A.getD 4 0)) "book" = some none) && (decide (PySem.W.findIn K (.ref (A.getD 4 0)) "__init__" = some (some (.ref (A.getD 66 0)))) && (PySem.W.isFn K (.ref (A.getD 66 0)) && (PySem.W.makesIn K (A.getD 4 0) && (PySem.W.keepIn K (.ref (A.getD 4 0)) && (decide (PySem.W.findIn K (.ref (A.getD 4 0)) "good" = some (some (.ref (A.getD 53 0)))) && (decide (PySem.W.findIn K (.ref (A.getD 4 0)) "free" = some (some (.ref (A.getD 54 0)))) && (decide (PySem.W.findIn K (.ref (A.getD 4 0)) "part" = some (some (.ref (A.getD 55 0))))))))))))))))))))))))))))
theorem fsK3_ok {K : PySem.W.Frag} {A : List Addr} (h : fsK3 K A = true) : (PySem.W.findIn K (.ref (A.getD 3 0)) "need_sheet" = some (some (.ref (A.getD 62 0)))) ∧ (PySem.W.isFn K (.ref (A.getD 62 0)) = true) ∧ (PySem.W.findIn K (.ref (A.getD 3 0)) "write" = some (some (.ref (A.getD 63 0)))) ∧ (PySem.W.isFn K (.ref (A.getD 63 0)) = true) ∧ (PySem.W.findIn K (.ref (A.getD 3 0)) "read" = some (some (.ref (A.getD 64 0)))) ∧ (PySem.W.isFn K (.ref (A.getD 64 0)) = true) ∧ (PySem.W.findIn K (.ref (A.getD 3 0)) "held" = some (some (.ref (A.getD 65 0)))) ∧ (PySem.W.isFn K (.ref (A.getD 65 0)) = true) ∧ (PySem.W.nsIn K mainGlobals "Store" = some (some (.ref (A.getD 4 0)))) ∧ (PySem.W.plainGet K (A.getD 4 0) Str.empty = true) ∧ (PySem.W.hasDictIn K (A.getD 4 0) = true) ∧ (PySem.W.plainOver K (A.getD 4 0) = true) ∧ (PySem.W.findIn K (.ref (A.getD 4 0)) "__setattr__" = some (some (.builtin "object.__setattr__"))) ∧ (PySem.W.findIn K (.ref (A.getD 4 0)) "rule" = some none) ∧ (PySem.W.findIn K (.ref (A.getD 4 0)) "papers" = some none) ∧ (PySem.W.findIn K (.ref (A.getD 4 0)) "chip" = some none) ∧ (PySem.W.findIn K (.ref (A.getD 4 0)) "terms" = some none) ∧ (PySem.W.findIn K (.ref (A.getD 4 0)) "book" = some none) ∧ (PySem.W.findIn K (.ref (A.getD 4 0)) "__init__" = some (some (.ref (A.getD 66 0)))) ∧ (PySem.W.isFn K (.ref (A.getD 66 0)) = true) ∧ (PySem.W.makesIn K (A.getD 4 0) = true) ∧ (PySem.W.keepIn K (.ref (A.getD 4 0)) = true) ∧ (PySem.W.findIn K (.ref (A.getD 4 0)) "good" = some (some (.ref (A.getD 53 0)))) ∧ (PySem.W.findIn K (.ref (A.getD 4 0)) "free" = some (some (.ref (A.getD 54 0)))) ∧ (PySem.W.findIn K (.ref (A.getD 4 0)) "part" = some (some (.ref (A.getD 55 0)))) := by
  unfold fsK3 at h
  obtain ⟨h0, h⟩ := He.ba h
  obtain ⟨h1, h⟩ := He.ba h
  obtain ⟨h2, h⟩ := He.ba h
  obtain ⟨h3, h⟩ := He.ba h
  obtain ⟨h4, h⟩ := He.ba h
  obtain ⟨h5, h⟩ := He.ba h
  obtain ⟨h6, h⟩ := He.ba h
  obtain ⟨h7, h⟩ := He.ba h
  obtain ⟨h8, h⟩ := He.ba h
  obtain ⟨h9, h⟩ := He.ba h
  obtain ⟨h10, h⟩ := He.ba h
  obtain ⟨h11, h⟩ := He.ba h
  obtain ⟨h12, h⟩ := He.ba h
  obtain ⟨h13, h⟩ := He.ba h
  obtain ⟨h14, h⟩ := He.ba h
  obtain ⟨h15, h⟩ := He.ba h
  obtain ⟨h16, h⟩ := He.ba h
  obtain ⟨h17, h⟩ := He.ba h
  obtain ⟨h18, h⟩ := He.ba h
  obtain ⟨h19, h⟩ := He.ba h
  obtain ⟨h20, h⟩ := He.ba h
  obtain ⟨h21, h⟩ := He.ba h
  obtain ⟨h22, h⟩ := He.ba h
  obtain ⟨h23, h⟩ := He.ba h
  exact ⟨of_decide_eq_true h0, h1, of_decide_eq_true h2, h3, of_decide_eq_true h4, h5, of_decide_eq_true h6, h7, of_decide_eq_true h8, h9, h10, h11, of_decide_eq_true h12, of_decide_eq_true h13, of_decide_eq_true h14, of_decide_eq_true h15, of_decide_eq_true h16, of_decide_eq_true h17, of_decide_eq_true h18, h19, h20, h21, of_decide_eq_true h22, of_decide_eq_true h23, of_decide_eq_true h⟩
def fsK4 (K : PySem.W.Frag) (A : List Addr) : Bool := decide (PySem.W.findIn K (.ref (A.getD 4 0)) "spot" = some (some (.ref (A.getD 56 0)))) && (decide (PySem.W.findIn K (.ref (A.getD 4 0)) "reserve" = some (some (.ref (A.getD 67 0)))) && (PySem.W.isFn K (.ref (A.getD 67 0)) && (decide (PySem.W.findIn K (.ref (A.getD 4 0)) "ready" = some (some (.ref (A.getD 58 0)))) && (decide (PySem.W.findIn K (.ref (A.getD 4 0)) "make_ready" = some (some (.ref (A.getD 78 0)))) && (PySem.W.isFn K (.ref (A.getD 78 0)) && (decide (PySem.W.findIn K (.ref (A.getD 4 0)) "set_down" = some (some (.ref (A.getD 60 0)))) && (decide (PySem.W.findIn K (.ref (A.getD 4 0)) "lay" = some (some (.ref (A.getD 61 0)))) && (decide (PySem.W.findIn K (.ref (A.getD 4 0)) "need_sheet" = some (some (.ref (A.getD 62 0)))) && (decide (PySem.W.findIn K (.ref (A.getD 4 0)) "write" = some (some (.ref (A.getD 63 0)))) && (decide (PySem.W.findIn K (.ref (A.getD 4 0)) "read" = some (some (.ref (A.getD 64 0)))) && (decide (PySem.W.findIn K (.ref (A.getD 4 0)) "held" = some (some (.ref (A.getD 65 0)))) && (decide (PySem.W.findIn K (.ref (A.getD 4 0)) "space" = some (some (.ref (A.getD 68 0)))) && (PySem.W.isFn K (.ref (A.getD 68 0)) && (decide (PySem.W.findIn K (.ref (A.getD 4 0)) "tally" = some (some (.ref (A.getD 69 0)))) && (PySem.W.isFn K (.ref (A.getD 69 0)) && (decide (PySem.W.findIn K (.ref (A.getD 4 0)) "full_ones" = some (some (.ref (A.getD 70 0)))) && (PySem.W.isFn K (.ref (A.getD 70 0)) && (decide (PySem.W.findIn K (.ref (A.getD 4 0)) "options" = some (some (.ref (A.getD 71 0)))) && (PySem.W.isFn K (.ref (A.getD 71 0)) && (decide (PySem.W.findIn K (.ref (A.getD 4 0)) "otherwise" = some (some (.ref (A.getD 72 0)))) && (PySem.W.isFn K (.ref (A.getD 72 0)) && (decide (PySem.W.findIn K (.ref (A.getD 4 0)) "choice" = some (some (.ref (A.getD 73 0)))) && (PySem.W.isFn K (.ref (A.getD 73 0)) && (decide (PySem.W.findIn K (.ref (A.getD 4 0)) "value_for" = some (some (.ref (A.getD 74 0))))))))))))))))))))))))))))
theorem fsK4_ok {K : PySem.W.Frag} {A : List Addr} (h : fsK4 K A = true) : (PySem.W.findIn K (.ref (A.getD 4 0)) "spot" = some (some (.ref (A.getD 56 0)))) ∧ (PySem.W.findIn K (.ref (A.getD 4 0)) "reserve" = some (some (.ref (A.getD 67 0)))) ∧ (PySem.W.isFn K (.ref (A.getD 67 0)) = true) ∧ (PySem.W.findIn K (.ref (A.getD 4 0)) "ready" = some (some (.ref (A.getD 58 0)))) ∧ (PySem.W.findIn K (.ref (A.getD 4 0)) "make_ready" = some (some (.ref (A.getD 78 0)))) ∧ (PySem.W.isFn K (.ref (A.getD 78 0)) = true) ∧ (PySem.W.findIn K (.ref (A.getD 4 0)) "set_down" = some (some (.ref (A.getD 60 0)))) ∧ (PySem.W.findIn K (.ref (A.getD 4 0)) "lay" = some (some (.ref (A.getD 61 0)))) ∧ (PySem.W.findIn K (.ref (A.getD 4 0)) "need_sheet" = some (some (.ref (A.getD 62 0)))) ∧ (PySem.W.findIn K (.ref (A.getD 4 0)) "write" = some (some (.ref (A.getD 63 0)))) ∧ (PySem.W.findIn K (.ref (A.getD 4 0)) "read" = some (some (.ref (A.getD 64 0)))) ∧ (PySem.W.findIn K (.ref (A.getD 4 0)) "held" = some (some (.ref (A.getD 65 0)))) ∧ (PySem.W.findIn K (.ref (A.getD 4 0)) "space" = some (some (.ref (A.getD 68 0)))) ∧ (PySem.W.isFn K (.ref (A.getD 68 0)) = true) ∧ (PySem.W.findIn K (.ref (A.getD 4 0)) "tally" = some (some (.ref (A.getD 69 0)))) ∧ (PySem.W.isFn K (.ref (A.getD 69 0)) = true) ∧ (PySem.W.findIn K (.ref (A.getD 4 0)) "full_ones" = some (some (.ref (A.getD 70 0)))) ∧ (PySem.W.isFn K (.ref (A.getD 70 0)) = true) ∧ (PySem.W.findIn K (.ref (A.getD 4 0)) "options" = some (some (.ref (A.getD 71 0)))) ∧ (PySem.W.isFn K (.ref (A.getD 71 0)) = true) ∧ (PySem.W.findIn K (.ref (A.getD 4 0)) "otherwise" = some (some (.ref (A.getD 72 0)))) ∧ (PySem.W.isFn K (.ref (A.getD 72 0)) = true) ∧ (PySem.W.findIn K (.ref (A.getD 4 0)) "choice" = some (some (.ref (A.getD 73 0)))) ∧ (PySem.W.isFn K (.ref (A.getD 73 0)) = true) ∧ (PySem.W.findIn K (.ref (A.getD 4 0)) "value_for" = some (some (.ref (A.getD 74 0)))) := by
  unfold fsK4 at h
  obtain ⟨h0, h⟩ := He.ba h
  obtain ⟨h1, h⟩ := He.ba h
  obtain ⟨h2, h⟩ := He.ba h
  obtain ⟨h3, h⟩ := He.ba h
  obtain ⟨h4, h⟩ := He.ba h
  obtain ⟨h5, h⟩ := He.ba h
  obtain ⟨h6, h⟩ := He.ba h
  obtain ⟨h7, h⟩ := He.ba h
  obtain ⟨h8, h⟩ := He.ba h
  obtain ⟨h9, h⟩ := He.ba h
  obtain ⟨h10, h⟩ := He.ba h
  obtain ⟨h11, h⟩ := He.ba h
  obtain ⟨h12, h⟩ := He.ba h
  obtain ⟨h13, h⟩ := He.ba h
  obtain ⟨h14, h⟩ := He.ba h
  obtain ⟨h15, h⟩ := He.ba h
  obtain ⟨h16, h⟩ := He.ba h
  obtain ⟨h17, h⟩ := He.ba h
  obtain ⟨h18, h⟩ := He.ba h
  obtain ⟨h19, h⟩ := He.ba h
  obtain ⟨h20, h⟩ := He.ba h
  obtain ⟨h21, h⟩ := He.ba h
  obtain ⟨h22, h⟩ := He.ba h
  obtain ⟨h23, h⟩ := He.ba h
  exact ⟨of_decide_eq_true h0, of_decide_eq_true h1, h2, of_decide_eq_true h3, of_decide_eq_true h4, h5, of_decide_eq_true h6, of_decide_eq_true h7, of_decide_eq_true h8, of_decide_eq_true h9, of_decide_eq_true h10, of_decide_eq_true h11, of_decide_eq_true h12, h13, of_decide_eq_true h14, h15, of_decide_eq_true h16, h17, of_decide_eq_true h18, h19, of_decide_eq_true h20, h21, of_decide_eq_true h22, h23, of_decide_eq_true h⟩
def fsK5 (K : PySem.W.Frag) (A : List Addr) : Bool := PySem.W.isFn K (.ref (A.getD 74 0)) && (decide (PySem.W.findIn K (.ref (A.getD 4 0)) "moved" = some (some (.ref (A.getD 75 0)))) && (PySem.W.isFn K (.ref (A.getD 75 0)) && (decide (PySem.W.findIn K (.ref (A.getD 4 0)) "wiped" = some (some (.ref (A.getD 76 0)))) && (PySem.W.isFn K (.ref (A.getD 76 0)) && (decide (PySem.W.findIn K (.ref (A.getD 4 0)) "make_room" = some (some (.ref (A.getD 77 0)))) && (PySem.W.isFn K (.ref (A.getD 77 0)) && (decide (PySem.W.nsIn K mainGlobals "Even" = some (some (.ref (A.getD 5 0)))) && (PySem.W.plainGet K (A.getD 5 0) Str.empty && (PySem.W.hasDictIn K (A.getD 5 0) && (PySem.W.plainOver K (A.getD 5 0) && (decide (PySem.W.findIn K (.ref (A.getD 5 0)) "__setattr__" = some (some (.builtin "object.__setattr__"))) && (decide (PySem.W.findIn K (.ref (A.getD 5 0)) "rule" = some none) && (decide (PySem.W.findIn K (.ref (A.getD 5 0)) "papers" = some none) && (decide (PySem.W.findIn K (.ref (A.getD 5 0)) "chip" = some none) && (decide (PySem.W.findIn K (.ref (A.getD 5 0)) "terms" = some none) && (decide (PySem.W.findIn K (.ref (A.getD 5 0)) "book" = some none) && (decide (PySem.W.findIn K (.ref (A.getD 5 0)) "__init__" = some (some (.ref (A.getD 66 0)))) && (PySem.W.makesIn K (A.getD 5 0) && (PySem.W.keepIn K (.ref (A.getD 5 0)) && (decide (PySem.W.findIn K (.ref (A.getD 5 0)) "good" = some (some (.ref (A.getD 53 0)))) && (decide (PySem.W.findIn K (.ref (A.getD 5 0)) "free" = some (some (.ref (A.getD 54 0)))) && (decide (PySem.W.findIn K (.ref (A.getD 5 0)) "part" = some (some (.ref (A.getD 55 0)))) && (decide (PySem.W.findIn K (.ref (A.getD 5 0)) "spot" = some (some (.ref (A.getD 56 0)))) && (decide (PySem.W.findIn K (.ref (A.getD 5 0)) "reserve" = some (some (.ref (A.getD 67 0))))))))))))))))))))))))))))
theorem fsK5_ok {K : PySem.W.Frag} {A : List Addr} (h : fsK5 K A = true) : (PySem.W.isFn K (.ref (A.getD 74 0)) = true) ∧ (PySem.W.findIn K (.ref (A.getD 4 0)) "moved" = some (some (.ref (A.getD 75 0)))) ∧ (PySem.W.isFn K (.ref (A.getD 75 0)) = true) ∧ (PySem.W.findIn K (.ref (A.getD 4 0)) "wiped" = some (some (.ref (A.getD 76 0)))) ∧ (PySem.W.isFn K (.ref (A.getD 76 0)) = true) ∧ (PySem.W.findIn K (.ref (A.getD 4 0)) "make_room" = some (some (.ref (A.getD 77 0)))) ∧ (PySem.W.isFn K (.ref (A.getD 77 0)) = true) ∧ (PySem.W.nsIn K mainGlobals "Even" = some (some (.ref (A.getD 5 0)))) ∧ (PySem.W.plainGet K (A.getD 5 0) Str.empty = true) ∧ (PySem.W.hasDictIn K (A.getD 5 0) = true) ∧ (PySem.W.plainOver K (A.getD 5 0) = true) ∧ (PySem.W.findIn K (.ref (A.getD 5 0)) "__setattr__" = some (some (.builtin "object.__setattr__"))) ∧ (PySem.W.findIn K (.ref (A.getD 5 0)) "rule" = some none) ∧ (PySem.W.findIn K (.ref (A.getD 5 0)) "papers" = some none) ∧ (PySem.W.findIn K (.ref (A.getD 5 0)) "chip" = some none) ∧ (PySem.W.findIn K (.ref (A.getD 5 0)) "terms" = some none) ∧ (PySem.W.findIn K (.ref (A.getD 5 0)) "book" = some none) ∧ (PySem.W.findIn K (.ref (A.getD 5 0)) "__init__" = some (some (.ref (A.getD 66 0)))) ∧ (PySem.W.makesIn K (A.getD 5 0) = true) ∧ (PySem.W.keepIn K (.ref (A.getD 5 0)) = true) ∧ (PySem.W.findIn K (.ref (A.getD 5 0)) "good" = some (some (.ref (A.getD 53 0)))) ∧ (PySem.W.findIn K (.ref (A.getD 5 0)) "free" = some (some (.ref (A.getD 54 0)))) ∧ (PySem.W.findIn K (.ref (A.getD 5 0)) "part" = some (some (.ref (A.getD 55 0)))) ∧ (PySem.W.findIn K (.ref (A.getD 5 0)) "spot" = some (some (.ref (A.getD 56 0)))) ∧ (PySem.W.findIn K (.ref (A.getD 5 0)) "reserve" = some (some (.ref (A.getD 67 0)))) := by
  unfold fsK5 at h
  obtain ⟨h0, h⟩ := He.ba h
  obtain ⟨h1, h⟩ := He.ba h
  obtain ⟨h2, h⟩ := He.ba h
  obtain ⟨h3, h⟩ := He.ba h
  obtain ⟨h4, h⟩ := He.ba h
  obtain ⟨h5, h⟩ := He.ba h
  obtain ⟨h6, h⟩ := He.ba h
  obtain ⟨h7, h⟩ := He.ba h
  obtain ⟨h8, h⟩ := He.ba h
  obtain ⟨h9, h⟩ := He.ba h
  obtain ⟨h10, h⟩ := He.ba h
  obtain ⟨h11, h⟩ := He.ba h
  obtain ⟨h12, h⟩ := He.ba h
  obtain ⟨h13, h⟩ := He.ba h
  obtain ⟨h14, h⟩ := He.ba h
  obtain ⟨h15, h⟩ := He.ba h
  obtain ⟨h16, h⟩ := He.ba h
  obtain ⟨h17, h⟩ := He.ba h
  obtain ⟨h18, h⟩ := He.ba h
  obtain ⟨h19, h⟩ := He.ba h
  obtain ⟨h20, h⟩ := He.ba h
  obtain ⟨h21, h⟩ := He.ba h
  obtain ⟨h22, h⟩ := He.ba h
  obtain ⟨h23, h⟩ := He.ba h
  exact ⟨h0, of_decide_eq_true h1, h2, of_decide_eq_true h3, h4, of_decide_eq_true h5, h6, of_decide_eq_true h7, h8, h9, h10, of_decide_eq_true h11, of_decide_eq_true h12, of_decide_eq_true h13, of_decide_eq_true h14, of_decide_eq_true h15, of_decide_eq_true h16, of_decide_eq_true h17, h18, h19, of_decide_eq_true h20, of_decide_eq_true h21, of_decide_eq_true h22, of_decide_eq_true h23, of_decide_eq_true h⟩
def fsK6 (K : PySem.W.Frag) (A : List Addr) : Bool := decide (PySem.W.findIn K (.ref (A.getD 5 0)) "ready" = some (some (.ref (A.getD 58 0)))) && (decide (PySem.W.findIn K (.ref (A.getD 5 0)) "make_ready" = some (some (.ref (A.getD 78 0)))) && (decide (PySem.W.findIn K (.ref (A.getD 5 0)) "set_down" = some (some (.ref (A.getD 60 0)))) && (decide (PySem.W.findIn K (.ref (A.getD 5 0)) "lay" = some (some (.ref (A.getD 61 0)))) && (decide (PySem.W.findIn K (.ref (A.getD 5 0)) "need_sheet" = some (some (.ref (A.getD 62 0)))) && (decide (PySem.W.findIn K (.ref (A.getD 5 0)) "write" = some (some (.ref (A.getD 63 0)))) && (decide (PySem.W.findIn K (.ref (A.getD 5 0)) "read" = some (some (.ref (A.getD 64 0)))) && (decide (PySem.W.findIn K (.ref (A.getD 5 0)) "held" = some (some (.ref (A.getD 65 0)))) && (decide (PySem.W.findIn K (.ref (A.getD 5 0)) "space" = some (some (.ref (A.getD 68 0)))) && (decide (PySem.W.findIn K (.ref (A.getD 5 0)) "tally" = some (some (.ref (A.getD 69 0)))) && (decide (PySem.W.findIn K (.ref (A.getD 5 0)) "full_ones" = some (some (.ref (A.getD 70 0)))) && (decide (PySem.W.findIn K (.ref (A.getD 5 0)) "options" = some (some (.ref (A.getD 84 0)))) && (PySem.W.isFn K (.ref (A.getD 84 0)) && (decide (PySem.W.findIn K (.ref (A.getD 5 0)) "otherwise" = some (some (.ref (A.getD 85 0)))) && (PySem.W.isFn K (.ref (A.getD 85 0)) && (decide (PySem.W.findIn K (.ref (A.getD 5 0)) "choice" = some (some (.ref (A.getD 73 0)))) && (decide (PySem.W.findIn K (.ref (A.getD 5 0)) "value_for" = some (some (.ref (A.getD 74 0)))) && (decide (PySem.W.findIn K (.ref (A.getD 5 0)) "moved" = some (some (.ref (A.getD 75 0)))) && (decide (PySem.W.findIn K (.ref (A.getD 5 0)) "wiped" = some (some (.ref (A.getD 76 0)))) && (decide (PySem.W.findIn K (.ref (A.getD 5 0)) "make_room" = some (some (.ref (A.getD 77 0)))) && (decide (PySem.W.findIn K (.ref (A.getD 5 0)) "clearings_of" = some (some (.ref (A.getD 80 0)))) && (PySem.W.isFn K (.ref (A.getD 80 0)) && (decide (PySem.W.findIn K (.ref (A.getD 5 0)) "least" = some (some (.ref (A.getD 81 0)))) && (PySem.W.isFn K (.ref (A.getD 81 0)) && (decide (PySem.W.findIn K (.ref (A.getD 5 0)) "gap" = some (some (.ref (A.getD 82 0))))))))))))))))))))))))))))
theorem fsK6_ok {K : PySem.W.Frag} {A : List Addr} (h : fsK6 K A = true) : (PySem.W.findIn K (.ref (A.getD 5 0)) "ready" = some (some (.ref (A.getD 58 0)))) ∧ (PySem.W.findIn K (.ref (A.getD 5 0)) "make_ready" = some (some (.ref (A.getD 78 0)))) ∧ (PySem.W.findIn K (.ref (A.getD 5 0)) "set_down" = some (some (.ref (A.getD 60 0)))) ∧ (PySem.W.findIn K (.ref (A.getD 5 0)) "lay" = some (some (.ref (A.getD 61 0)))) ∧ (PySem.W.findIn K (.ref (A.getD 5 0)) "need_sheet" = some (some (.ref (A.getD 62 0)))) ∧ (PySem.W.findIn K (.ref (A.getD 5 0)) "write" = some (some (.ref (A.getD 63 0)))) ∧ (PySem.W.findIn K (.ref (A.getD 5 0)) "read" = some (some (.ref (A.getD 64 0)))) ∧ (PySem.W.findIn K (.ref (A.getD 5 0)) "held" = some (some (.ref (A.getD 65 0)))) ∧ (PySem.W.findIn K (.ref (A.getD 5 0)) "space" = some (some (.ref (A.getD 68 0)))) ∧ (PySem.W.findIn K (.ref (A.getD 5 0)) "tally" = some (some (.ref (A.getD 69 0)))) ∧ (PySem.W.findIn K (.ref (A.getD 5 0)) "full_ones" = some (some (.ref (A.getD 70 0)))) ∧ (PySem.W.findIn K (.ref (A.getD 5 0)) "options" = some (some (.ref (A.getD 84 0)))) ∧ (PySem.W.isFn K (.ref (A.getD 84 0)) = true) ∧ (PySem.W.findIn K (.ref (A.getD 5 0)) "otherwise" = some (some (.ref (A.getD 85 0)))) ∧ (PySem.W.isFn K (.ref (A.getD 85 0)) = true) ∧ (PySem.W.findIn K (.ref (A.getD 5 0)) "choice" = some (some (.ref (A.getD 73 0)))) ∧ (PySem.W.findIn K (.ref (A.getD 5 0)) "value_for" = some (some (.ref (A.getD 74 0)))) ∧ (PySem.W.findIn K (.ref (A.getD 5 0)) "moved" = some (some (.ref (A.getD 75 0)))) ∧ (PySem.W.findIn K (.ref (A.getD 5 0)) "wiped" = some (some (.ref (A.getD 76 0)))) ∧ (PySem.W.findIn K (.ref (A.getD 5 0)) "make_room" = some (some (.ref (A.getD 77 0)))) ∧ (PySem.W.findIn K (.ref (A.getD 5 0)) "clearings_of" = some (some (.ref (A.getD 80 0)))) ∧ (PySem.W.isFn K (.ref (A.getD 80 0)) = true) ∧ (PySem.W.findIn K (.ref (A.getD 5 0)) "least" = some (some (.ref (A.getD 81 0)))) ∧ (PySem.W.isFn K (.ref (A.getD 81 0)) = true) ∧ (PySem.W.findIn K (.ref (A.getD 5 0)) "gap" = some (some (.ref (A.getD 82 0)))) := by
  unfold fsK6 at h
  obtain ⟨h0, h⟩ := He.ba h
  obtain ⟨h1, h⟩ := He.ba h
  obtain ⟨h2, h⟩ := He.ba h
  obtain ⟨h3, h⟩ := He.ba h
  obtain ⟨h4, h⟩ := He.ba h
  obtain ⟨h5, h⟩ := He.ba h
  obtain ⟨h6, h⟩ := He.ba h
  obtain ⟨h7, h⟩ := He.ba h
  obtain ⟨h8, h⟩ := He.ba h
  obtain ⟨h9, h⟩ := He.ba h
  obtain ⟨h10, h⟩ := He.ba h
  obtain ⟨h11, h⟩ := He.ba h
  obtain ⟨h12, h⟩ := He.ba h
  obtain ⟨h13, h⟩ := He.ba h
  obtain ⟨h14, h⟩ := He.ba h
  obtain ⟨h15, h⟩ := He.ba h
  obtain ⟨h16, h⟩ := He.ba h
  obtain ⟨h17, h⟩ := He.ba h
  obtain ⟨h18, h⟩ := He.ba h
  obtain ⟨h19, h⟩ := He.ba h
  obtain ⟨h20, h⟩ := He.ba h
  obtain ⟨h21, h⟩ := He.ba h
  obtain ⟨h22, h⟩ := He.ba h
  obtain ⟨h23, h⟩ := He.ba h
  exact ⟨of_decide_eq_true h0, of_decide_eq_true h1, of_decide_eq_true h2, of_decide_eq_true h3, of_decide_eq_true h4, of_decide_eq_true h5, of_decide_eq_true h6, of_decide_eq_true h7, of_decide_eq_true h8, of_decide_eq_true h9, of_decide_eq_true h10, of_decide_eq_true h11, h12, of_decide_eq_true h13, h14, of_decide_eq_true h15, of_decide_eq_true h16, of_decide_eq_true h17, of_decide_eq_true h18, of_decide_eq_true h19, of_decide_eq_true h20, h21, of_decide_eq_true h22, h23, of_decide_eq_true h⟩
def fsK7 (K : PySem.W.Frag) (A : List Addr) : Bool := PySem.W.isFn K (.ref (A.getD 82 0)) && (decide (PySem.W.findIn K (.ref (A.getD 5 0)) "spared" = some (some (.ref (A.getD 83 0)))) && (PySem.W.isFn K (.ref (A.getD 83 0)) && (decide (PySem.W.findIn K (.ref (A.getD 5 0)) "changes" = some (some (.ref (A.getD 86 0)))) && (PySem.W.isFn K (.ref (A.getD 86 0)) && (decide (PySem.W.nsIn K mainGlobals "Chip" = some (some (.ref (A.getD 6 0)))) && (PySem.W.plainGet K (A.getD 6 0) Str.empty && (PySem.W.hasDictIn K (A.getD 6 0) && (PySem.W.plainOver K (A.getD 6 0) && (decide (PySem.W.findIn K (.ref (A.getD 6 0)) "__setattr__" = some (some (.builtin "object.__setattr__"))) && (decide (PySem.W.findIn K (.ref (A.getD 6 0)) "blocks" = some none) && (decide (PySem.W.findIn K (.ref (A.getD 6 0)) "pages" = some none) && (decide (PySem.W.findIn K (.ref (A.getD 6 0)) "most" = some none) && (decide (PySem.W.findIn K (.ref (A.getD 6 0)) "lasts" = some none) && (decide (PySem.W.findIn K (.ref (A.getD 6 0)) "stuff" = some none) && (decide (PySem.W.findIn K (.ref (A.getD 6 0)) "tried" = some none) && (decide (PySem.W.findIn K (.ref (A.getD 6 0)) "clearings" = some none) && (decide (PySem.W.findIn K (.ref (A.getD 6 0)) "broken" = some none) && (decide (PySem.W.findIn K (.ref (A.getD 6 0)) "left" = some none) && (decide (PySem.W.findIn K (.ref (A.getD 6 0)) "log" = some none) && (decide (PySem.W.findIn K (.ref (A.getD 6 0)) "__init__" = some (some (.ref (A.getD 88 0)))) && (PySem.W.isFn K (.ref (A.getD 88 0)) && (PySem.W.makesIn K (A.getD 6 0) && (PySem.W.keepIn K (.ref (A.getD 6 0)) && (decide (PySem.W.findIn K (.ref (A.getD 6 0)) "need_page" = some (some (.ref (A.getD 89 0))))))))))))))))))))))))))))
theorem fsK7_ok {K : PySem.W.Frag} {A : List Addr} (h : fsK7 K A = true) : (PySem.W.isFn K (.ref (A.getD 82 0)) = true) ∧ (PySem.W.findIn K (.ref (A.getD 5 0)) "spared" = some (some (.ref (A.getD 83 0)))) ∧ (PySem.W.isFn K (.ref (A.getD 83 0)) = true) ∧ (PySem.W.findIn K (.ref (A.getD 5 0)) "changes" = some (some (.ref (A.getD 86 0)))) ∧ (PySem.W.isFn K (.ref (A.getD 86 0)) = true) ∧ (PySem.W.nsIn K mainGlobals "Chip" = some (some (.ref (A.getD 6 0)))) ∧ (PySem.W.plainGet K (A.getD 6 0) Str.empty = true) ∧ (PySem.W.hasDictIn K (A.getD 6 0) = true) ∧ (PySem.W.plainOver K (A.getD 6 0) = true) ∧ (PySem.W.findIn K (.ref (A.getD 6 0)) "__setattr__" = some (some (.builtin "object.__setattr__"))) ∧ (PySem.W.findIn K (.ref (A.getD 6 0)) "blocks" = some none) ∧ (PySem.W.findIn K (.ref (A.getD 6 0)) "pages" = some none) ∧ (PySem.W.findIn K (.ref (A.getD 6 0)) "most" = some none) ∧ (PySem.W.findIn K (.ref (A.getD 6 0)) "lasts" = some none) ∧ (PySem.W.findIn K (.ref (A.getD 6 0)) "stuff" = some none) ∧ (PySem.W.findIn K (.ref (A.getD 6 0)) "tried" = some none) ∧ (PySem.W.findIn K (.ref (A.getD 6 0)) "clearings" = some none) ∧ (PySem.W.findIn K (.ref (A.getD 6 0)) "broken" = some none) ∧ (PySem.W.findIn K (.ref (A.getD 6 0)) "left" = some none) ∧ (PySem.W.findIn K (.ref (A.getD 6 0)) "log" = some none) ∧ (PySem.W.findIn K (.ref (A.getD 6 0)) "__init__" = some (some (.ref (A.getD 88 0)))) ∧ (PySem.W.isFn K (.ref (A.getD 88 0)) = true) ∧ (PySem.W.makesIn K (A.getD 6 0) = true) ∧ (PySem.W.keepIn K (.ref (A.getD 6 0)) = true) ∧ (PySem.W.findIn K (.ref (A.getD 6 0)) "need_page" = some (some (.ref (A.getD 89 0)))) := by
  unfold fsK7 at h
  obtain ⟨h0, h⟩ := He.ba h
  obtain ⟨h1, h⟩ := He.ba h
  obtain ⟨h2, h⟩ := He.ba h
  obtain ⟨h3, h⟩ := He.ba h
  obtain ⟨h4, h⟩ := He.ba h
  obtain ⟨h5, h⟩ := He.ba h
  obtain ⟨h6, h⟩ := He.ba h
  obtain ⟨h7, h⟩ := He.ba h
  obtain ⟨h8, h⟩ := He.ba h
  obtain ⟨h9, h⟩ := He.ba h
  obtain ⟨h10, h⟩ := He.ba h
  obtain ⟨h11, h⟩ := He.ba h
  obtain ⟨h12, h⟩ := He.ba h
  obtain ⟨h13, h⟩ := He.ba h
  obtain ⟨h14, h⟩ := He.ba h
  obtain ⟨h15, h⟩ := He.ba h
  obtain ⟨h16, h⟩ := He.ba h
  obtain ⟨h17, h⟩ := He.ba h
  obtain ⟨h18, h⟩ := He.ba h
  obtain ⟨h19, h⟩ := He.ba h
  obtain ⟨h20, h⟩ := He.ba h
  obtain ⟨h21, h⟩ := He.ba h
  obtain ⟨h22, h⟩ := He.ba h
  obtain ⟨h23, h⟩ := He.ba h
  exact ⟨h0, of_decide_eq_true h1, h2, of_decide_eq_true h3, h4, of_decide_eq_true h5, h6, h7, h8, of_decide_eq_true h9, of_decide_eq_true h10, of_decide_eq_true h11, of_decide_eq_true h12, of_decide_eq_true h13, of_decide_eq_true h14, of_decide_eq_true h15, of_decide_eq_true h16, of_decide_eq_true h17, of_decide_eq_true h18, of_decide_eq_true h19, of_decide_eq_true h20, h21, h22, h23, of_decide_eq_true h⟩
def fsK8 (K : PySem.W.Frag) (A : List Addr) : Bool := PySem.W.isFn K (.ref (A.getD 89 0)) && (decide (PySem.W.findIn K (.ref (A.getD 6 0)) "need_block" = some (some (.ref (A.getD 90 0)))) && (PySem.W.isFn K (.ref (A.getD 90 0)) && (decide (PySem.W.findIn K (.ref (A.getD 6 0)) "need_power" = some (some (.ref (A.getD 91 0)))) && (PySem.W.isFn K (.ref (A.getD 91 0)) && (decide (PySem.W.findIn K (.ref (A.getD 6 0)) "need_good" = some (some (.ref (A.getD 92 0)))) && (PySem.W.isFn K (.ref (A.getD 92 0)) && (decide (PySem.W.findIn K (.ref (A.getD 6 0)) "goes_well" = some (some (.ref (A.getD 93 0)))) && (PySem.W.isFn K (.ref (A.getD 93 0)) && (decide (PySem.W.findIn K (.ref (A.getD 6 0)) "put" = some (some (.ref (A.getD 94 0)))) && (PySem.W.isFn K (.ref (A.getD 94 0)) && (decide (PySem.W.findIn K (.ref (A.getD 6 0)) "wipe" = some (some (.ref (A.getD 95 0)))) && (PySem.W.isFn K (.ref (A.getD 95 0)) && (decide (PySem.W.findIn K (.ref (A.getD 6 0)) "read" = some (some (.ref (A.getD 96 0)))) && (PySem.W.isFn K (.ref (A.getD 96 0)) && (decide (PySem.W.findIn K (.ref (A.getD 6 0)) "is_dark" = some (some (.ref (A.getD 97 0)))) && (PySem.W.isFn K (.ref (A.getD 97 0)) && (decide (PySem.W.findIn K (.ref (A.getD 6 0)) "cleared" = some (some (.ref (A.getD 98 0)))) && (PySem.W.isFn K (.ref (A.getD 98 0)) && (decide (PySem.W.findIn K (.ref (A.getD 6 0)) "failed" = some (some (.ref (A.getD 99 0)))) && (PySem.W.isFn K (.ref (A.getD 99 0)) && (decide (PySem.W.findIn K (.ref (A.getD 6 0)) "deeds" = some (some (.ref (A.getD 100 0)))) && (PySem.W.isFn K (.ref (A.getD 100 0)) && (decide (PySem.W.nsIn K mainGlobals "Rule" = some (some (.ref (A.getD 7 0)))) && (PySem.W.plainGet K (A.getD 7 0) Str.empty))))))))))))))))))))))))
theorem fsK8_ok {K : PySem.W.Frag} {A : List Addr} (h : fsK8 K A = true) : (PySem.W.isFn K (.ref (A.getD 89 0)) = true) ∧ (PySem.W.findIn K (.ref (A.getD 6 0)) "need_block" = some (some (.ref (A.getD 90 0)))) ∧ (PySem.W.isFn K (.ref (A.getD 90 0)) = true) ∧ (PySem.W.findIn K (.ref (A.getD 6 0)) "need_power" = some (some (.ref (A.getD 91 0)))) ∧ (PySem.W.isFn K (.ref (A.getD 91 0)) = true) ∧ (PySem.W.findIn K (.ref (A.getD 6 0)) "need_good" = some (some (.ref (A.getD 92 0)))) ∧ (PySem.W.isFn K (.ref (A.getD 92 0)) = true) ∧ (PySem.W.findIn K (.ref (A.getD 6 0)) "goes_well" = some (some (.ref (A.getD 93 0)))) ∧ (PySem.W.isFn K (.ref (A.getD 93 0)) = true) ∧ (PySem.W.findIn K (.ref (A.getD 6 0)) "put" = some (some (.ref (A.getD 94 0)))) ∧ (PySem.W.isFn K (.ref (A.getD 94 0)) = true) ∧ (PySem.W.findIn K (.ref (A.getD 6 0)) "wipe" = some (some (.ref (A.getD 95 0)))) ∧ (PySem.W.isFn K (.ref (A.getD 95 0)) = true) ∧ (PySem.W.findIn K (.ref (A.getD 6 0)) "read" = some (some (.ref (A.getD 96 0)))) ∧ (PySem.W.isFn K (.ref (A.getD 96 0)) = true) ∧ (PySem.W.findIn K (.ref (A.getD 6 0)) "is_dark" = some (some (.ref (A.getD 97 0)))) ∧ (PySem.W.isFn K (.ref (A.getD 97 0)) = true) ∧ (PySem.W.findIn K (.ref (A.getD 6 0)) "cleared" = some (some (.ref (A.getD 98 0)))) ∧ (PySem.W.isFn K (.ref (A.getD 98 0)) = true) ∧ (PySem.W.findIn K (.ref (A.getD 6 0)) "failed" = some (some (.ref (A.getD 99 0)))) ∧ (PySem.W.isFn K (.ref (A.getD 99 0)) = true) ∧ (PySem.W.findIn K (.ref (A.getD 6 0)) "deeds" = some (some (.ref (A.getD 100 0)))) ∧ (PySem.W.isFn K (.ref (A.getD 100 0)) = true) ∧ (PySem.W.nsIn K mainGlobals "Rule" = some (some (.ref (A.getD 7 0)))) ∧ (PySem.W.plainGet K (A.getD 7 0) Str.empty = true) := by
  unfold fsK8 at h
  obtain ⟨h0, h⟩ := He.ba h
  obtain ⟨h1, h⟩ := He.ba h
  obtain ⟨h2, h⟩ := He.ba h
  obtain ⟨h3, h⟩ := He.ba h
  obtain ⟨h4, h⟩ := He.ba h
  obtain ⟨h5, h⟩ := He.ba h
  obtain ⟨h6, h⟩ := He.ba h
  obtain ⟨h7, h⟩ := He.ba h
  obtain ⟨h8, h⟩ := He.ba h
  obtain ⟨h9, h⟩ := He.ba h
  obtain ⟨h10, h⟩ := He.ba h
  obtain ⟨h11, h⟩ := He.ba h
  obtain ⟨h12, h⟩ := He.ba h
  obtain ⟨h13, h⟩ := He.ba h
  obtain ⟨h14, h⟩ := He.ba h
  obtain ⟨h15, h⟩ := He.ba h
  obtain ⟨h16, h⟩ := He.ba h
  obtain ⟨h17, h⟩ := He.ba h
  obtain ⟨h18, h⟩ := He.ba h
  obtain ⟨h19, h⟩ := He.ba h
  obtain ⟨h20, h⟩ := He.ba h
  obtain ⟨h21, h⟩ := He.ba h
  obtain ⟨h22, h⟩ := He.ba h
  obtain ⟨h23, h⟩ := He.ba h
  exact ⟨h0, of_decide_eq_true h1, h2, of_decide_eq_true h3, h4, of_decide_eq_true h5, h6, of_decide_eq_true h7, h8, of_decide_eq_true h9, h10, of_decide_eq_true h11, h12, of_decide_eq_true h13, h14, of_decide_eq_true h15, h16, of_decide_eq_true h17, h18, of_decide_eq_true h19, h20, of_decide_eq_true h21, h22, of_decide_eq_true h23, h⟩
def fsK9 (K : PySem.W.Frag) (A : List Addr) : Bool := PySem.W.hasDictIn K (A.getD 7 0) && (PySem.W.plainOver K (A.getD 7 0) && (decide (PySem.W.findIn K (.ref (A.getD 7 0)) "__setattr__" = some (some (.builtin "object.__setattr__"))) && (PySem.W.makesIn K (A.getD 7 0) && (PySem.W.keepIn K (.ref (A.getD 7 0)) && (decide (PySem.W.findIn K (.ref (A.getD 7 0)) "__init__" = some (some (.builtin "object.__init__"))) && (decide (PySem.W.findIn K (.ref (A.getD 7 0)) "goes_ahead" = some (some (.ref (A.getD 101 0)))) && (PySem.W.isFn K (.ref (A.getD 101 0)) && (decide (PySem.W.findIn K (.ref (A.getD 7 0)) "choose" = some (some (.ref (A.getD 102 0)))) && (PySem.W.isFn K (.ref (A.getD 102 0)) && (decide (PySem.W.nsIn K mainGlobals "Terms" = some (some (.ref (A.getD 8 0)))) && (PySem.W.plainGet K (A.getD 8 0) Str.empty && (PySem.W.hasDictIn K (A.getD 8 0) && (PySem.W.plainOver K (A.getD 8 0) && (decide (PySem.W.findIn K (.ref (A.getD 8 0)) "__setattr__" = some (some (.builtin "object.__setattr__"))) && (decide (PySem.W.findIn K (.ref (A.getD 8 0)) "blocks" = some none) && (decide (PySem.W.findIn K (.ref (A.getD 8 0)) "pages" = some none) && (decide (PySem.W.findIn K (.ref (A.getD 8 0)) "sheets" = some none) && (decide (PySem.W.findIn K (.ref (A.getD 8 0)) "share" = some none) && (decide (PySem.W.findIn K (.ref (A.getD 8 0)) "ill" = some none) && (decide (PySem.W.findIn K (.ref (A.getD 8 0)) "spread" = some none) && (decide (PySem.W.findIn K (.ref (A.getD 8 0)) "__init__" = some (some (.ref (A.getD 103 0)))) && (PySem.W.isFn K (.ref (A.getD 103 0)) && (PySem.W.makesIn K (A.getD 8 0) && (PySem.W.keepIn K (.ref (A.getD 8 0))))))))))))))))))))))))))
theorem fsK9_ok {K : PySem.W.Frag} {A : List Addr} (h : fsK9 K A = true) : (PySem.W.hasDictIn K (A.getD 7 0) = true) ∧ (PySem.W.plainOver K (A.getD 7 0) = true) ∧ (PySem.W.findIn K (.ref (A.getD 7 0)) "__setattr__" = some (some (.builtin "object.__setattr__"))) ∧ (PySem.W.makesIn K (A.getD 7 0) = true) ∧ (PySem.W.keepIn K (.ref (A.getD 7 0)) = true) ∧ (PySem.W.findIn K (.ref (A.getD 7 0)) "__init__" = some (some (.builtin "object.__init__"))) ∧ (PySem.W.findIn K (.ref (A.getD 7 0)) "goes_ahead" = some (some (.ref (A.getD 101 0)))) ∧ (PySem.W.isFn K (.ref (A.getD 101 0)) = true) ∧ (PySem.W.findIn K (.ref (A.getD 7 0)) "choose" = some (some (.ref (A.getD 102 0)))) ∧ (PySem.W.isFn K (.ref (A.getD 102 0)) = true) ∧ (PySem.W.nsIn K mainGlobals "Terms" = some (some (.ref (A.getD 8 0)))) ∧ (PySem.W.plainGet K (A.getD 8 0) Str.empty = true) ∧ (PySem.W.hasDictIn K (A.getD 8 0) = true) ∧ (PySem.W.plainOver K (A.getD 8 0) = true) ∧ (PySem.W.findIn K (.ref (A.getD 8 0)) "__setattr__" = some (some (.builtin "object.__setattr__"))) ∧ (PySem.W.findIn K (.ref (A.getD 8 0)) "blocks" = some none) ∧ (PySem.W.findIn K (.ref (A.getD 8 0)) "pages" = some none) ∧ (PySem.W.findIn K (.ref (A.getD 8 0)) "sheets" = some none) ∧ (PySem.W.findIn K (.ref (A.getD 8 0)) "share" = some none) ∧ (PySem.W.findIn K (.ref (A.getD 8 0)) "ill" = some none) ∧ (PySem.W.findIn K (.ref (A.getD 8 0)) "spread" = some none) ∧ (PySem.W.findIn K (.ref (A.getD 8 0)) "__init__" = some (some (.ref (A.getD 103 0)))) ∧ (PySem.W.isFn K (.ref (A.getD 103 0)) = true) ∧ (PySem.W.makesIn K (A.getD 8 0) = true) ∧ (PySem.W.keepIn K (.ref (A.getD 8 0)) = true) := by
  unfold fsK9 at h
  obtain ⟨h0, h⟩ := He.ba h
  obtain ⟨h1, h⟩ := He.ba h
  obtain ⟨h2, h⟩ := He.ba h
  obtain ⟨h3, h⟩ := He.ba h
  obtain ⟨h4, h⟩ := He.ba h
  obtain ⟨h5, h⟩ := He.ba h
  obtain ⟨h6, h⟩ := He.ba h
  obtain ⟨h7, h⟩ := He.ba h
  obtain ⟨h8, h⟩ := He.ba h
  obtain ⟨h9, h⟩ := He.ba h
  obtain ⟨h10, h⟩ := He.ba h
  obtain ⟨h11, h⟩ := He.ba h
  obtain ⟨h12, h⟩ := He.ba h
  obtain ⟨h13, h⟩ := He.ba h
  obtain ⟨h14, h⟩ := He.ba h
  obtain ⟨h15, h⟩ := He.ba h
  obtain ⟨h16, h⟩ := He.ba h
  obtain ⟨h17, h⟩ := He.ba h
  obtain ⟨h18, h⟩ := He.ba h
  obtain ⟨h19, h⟩ := He.ba h
  obtain ⟨h20, h⟩ := He.ba h
  obtain ⟨h21, h⟩ := He.ba h
  obtain ⟨h22, h⟩ := He.ba h
  obtain ⟨h23, h⟩ := He.ba h
  exact ⟨h0, h1, of_decide_eq_true h2, h3, h4, of_decide_eq_true h5, of_decide_eq_true h6, h7, of_decide_eq_true h8, h9, of_decide_eq_true h10, h11, h12, h13, of_decide_eq_true h14, of_decide_eq_true h15, of_decide_eq_true h16, of_decide_eq_true h17, of_decide_eq_true h18, of_decide_eq_true h19, of_decide_eq_true h20, of_decide_eq_true h21, h22, h23, h⟩
def fsK10 (K : PySem.W.Frag) (A : List Addr) : Bool := decide (PySem.W.findIn K (.ref (A.getD 8 0)) "closed" = some (some (.ref (A.getD 104 0)))) && (PySem.W.isFn K (.ref (A.getD 104 0)) && (decide (PySem.W.nsIn K mainGlobals "WornError" = some (some (.ref (A.getD 9 0)))) && (PySem.W.excIn K (A.getD 9 0) [.type "ValueError", .type "Exception", .type "BaseException", .type "object"] "ValueError.__new__" && (PySem.W.keepIn K (.ref (A.getD 9 0)) && (decide (PySem.W.subIn K (.ref (A.getD 9 0)) (.type "BaseException") = some true) && (decide (PySem.W.typeIn K (.ref (A.getD 9 0)) = some (.type "type")) && (decide (PySem.W.nsIn K mainGlobals "NoChip" = some (some (.ref (A.getD 10 0)))) && (PySem.W.excIn K (A.getD 10 0) [.type "ValueError", .type "Exception", .type "BaseException", .type "object"] "ValueError.__new__" && (PySem.W.keepIn K (.ref (A.getD 10 0)) && (decide (PySem.W.subIn K (.ref (A.getD 10 0)) (.type "BaseException") = some true) && (decide (PySem.W.typeIn K (.ref (A.getD 10 0)) = some (.type "type")) && (decide (PySem.W.nsIn K mainGlobals "NoPlace" = some (some (.ref (A.getD 11 0)))) && (PySem.W.excIn K (A.getD 11 0) [.type "ValueError", .type "Exception", .type "BaseException", .type "object"] "ValueError.__new__" && (PySem.W.keepIn K (.ref (A.getD 11 0)) && (decide (PySem.W.subIn K (.ref (A.getD 11 0)) (.type "BaseException") = some true) && (decide (PySem.W.typeIn K (.ref (A.getD 11 0)) = some (.type "type")) && (decide (PySem.W.nsIn K mainGlobals "PowerGone" = some (some (.ref (A.getD 12 0)))) && (PySem.W.excIn K (A.getD 12 0) [.type "ValueError", .type "Exception", .type "BaseException", .type "object"] "ValueError.__new__" && (PySem.W.keepIn K (.ref (A.getD 12 0)) && (decide (PySem.W.subIn K (.ref (A.getD 12 0)) (.type "BaseException") = some true) && (decide (PySem.W.typeIn K (.ref (A.getD 12 0)) = some (.type "type")) && (decide (PySem.W.nsIn K mainGlobals "BlockFailed" = some (some (.ref (A.getD 13 0)))) && (oexB K (A.getD 13 0) && (decide (PySem.W.findIn K (.ref (A.getD 13 0)) "__setattr__" = some (some (.builtin "object.__setattr__")))))))))))))))))))))))))))
theorem fsK10_ok {K : PySem.W.Frag} {A : List Addr} (h : fsK10 K A = true) : (PySem.W.findIn K (.ref (A.getD 8 0)) "closed" = some (some (.ref (A.getD 104 0)))) ∧ (PySem.W.isFn K (.ref (A.getD 104 0)) = true) ∧ (PySem.W.nsIn K mainGlobals "WornError" = some (some (.ref (A.getD 9 0)))) ∧ (PySem.W.excIn K (A.getD 9 0) [.type "ValueError", .type "Exception", .type "BaseException", .type "object"] "ValueError.__new__" = true) ∧ (PySem.W.keepIn K (.ref (A.getD 9 0)) = true) ∧ (PySem.W.subIn K (.ref (A.getD 9 0)) (.type "BaseException") = some true) ∧ (PySem.W.typeIn K (.ref (A.getD 9 0)) = some (.type "type")) ∧ (PySem.W.nsIn K mainGlobals "NoChip" = some (some (.ref (A.getD 10 0)))) ∧ (PySem.W.excIn K (A.getD 10 0) [.type "ValueError", .type "Exception", .type "BaseException", .type "object"] "ValueError.__new__" = true) ∧ (PySem.W.keepIn K (.ref (A.getD 10 0)) = true) ∧ (PySem.W.subIn K (.ref (A.getD 10 0)) (.type "BaseException") = some true) ∧ (PySem.W.typeIn K (.ref (A.getD 10 0)) = some (.type "type")) ∧ (PySem.W.nsIn K mainGlobals "NoPlace" = some (some (.ref (A.getD 11 0)))) ∧ (PySem.W.excIn K (A.getD 11 0) [.type "ValueError", .type "Exception", .type "BaseException", .type "object"] "ValueError.__new__" = true) ∧ (PySem.W.keepIn K (.ref (A.getD 11 0)) = true) ∧ (PySem.W.subIn K (.ref (A.getD 11 0)) (.type "BaseException") = some true) ∧ (PySem.W.typeIn K (.ref (A.getD 11 0)) = some (.type "type")) ∧ (PySem.W.nsIn K mainGlobals "PowerGone" = some (some (.ref (A.getD 12 0)))) ∧ (PySem.W.excIn K (A.getD 12 0) [.type "ValueError", .type "Exception", .type "BaseException", .type "object"] "ValueError.__new__" = true) ∧ (PySem.W.keepIn K (.ref (A.getD 12 0)) = true) ∧ (PySem.W.subIn K (.ref (A.getD 12 0)) (.type "BaseException") = some true) ∧ (PySem.W.typeIn K (.ref (A.getD 12 0)) = some (.type "type")) ∧ (PySem.W.nsIn K mainGlobals "BlockFailed" = some (some (.ref (A.getD 13 0)))) ∧ (oexB K (A.getD 13 0) = true) ∧ (PySem.W.findIn K (.ref (A.getD 13 0)) "__setattr__" = some (some (.builtin "object.__setattr__"))) := by
  unfold fsK10 at h
  obtain ⟨h0, h⟩ := He.ba h
  obtain ⟨h1, h⟩ := He.ba h
  obtain ⟨h2, h⟩ := He.ba h
  obtain ⟨h3, h⟩ := He.ba h
  obtain ⟨h4, h⟩ := He.ba h
  obtain ⟨h5, h⟩ := He.ba h
  obtain ⟨h6, h⟩ := He.ba h
  obtain ⟨h7, h⟩ := He.ba h
  obtain ⟨h8, h⟩ := He.ba h
  obtain ⟨h9, h⟩ := He.ba h
  obtain ⟨h10, h⟩ := He.ba h
  obtain ⟨h11, h⟩ := He.ba h
  obtain ⟨h12, h⟩ := He.ba h
  obtain ⟨h13, h⟩ := He.ba h
  obtain ⟨h14, h⟩ := He.ba h
  obtain ⟨h15, h⟩ := He.ba h
  obtain ⟨h16, h⟩ := He.ba h
  obtain ⟨h17, h⟩ := He.ba h
  obtain ⟨h18, h⟩ := He.ba h
  obtain ⟨h19, h⟩ := He.ba h
  obtain ⟨h20, h⟩ := He.ba h
  obtain ⟨h21, h⟩ := He.ba h
  obtain ⟨h22, h⟩ := He.ba h
  obtain ⟨h23, h⟩ := He.ba h
  exact ⟨of_decide_eq_true h0, h1, of_decide_eq_true h2, h3, h4, of_decide_eq_true h5, of_decide_eq_true h6, of_decide_eq_true h7, h8, h9, of_decide_eq_true h10, of_decide_eq_true h11, of_decide_eq_true h12, h13, h14, of_decide_eq_true h15, of_decide_eq_true h16, of_decide_eq_true h17, h18, h19, of_decide_eq_true h20, of_decide_eq_true h21, of_decide_eq_true h22, h23, of_decide_eq_true h⟩
def fsK11 (K : PySem.W.Frag) (A : List Addr) : Bool := decide (PySem.W.subIn K (.ref (A.getD 13 0)) (.type "BaseException") = some true) && (decide (PySem.W.typeIn K (.ref (A.getD 13 0)) = some (.type "type")) && (PySem.W.keepIn K (.ref (A.getD 13 0)) && (decide (PySem.W.findIn K (.ref (A.getD 13 0)) "__init__" = some (some (.ref (A.getD 38 0)))) && (decide (PySem.W.typeIn K (.ref (A.getD 38 0)) = some (.type "function")) && (xfB K (A.getD 13 0) && (decide (PySem.W.findIn K (.ref (A.getD 13 0)) "block" = some none) && (decide (PySem.W.nsIn K mainGlobals "NotClear" = some (some (.ref (A.getD 14 0)))) && (oexB K (A.getD 14 0) && (decide (PySem.W.findIn K (.ref (A.getD 14 0)) "__setattr__" = some (some (.builtin "object.__setattr__"))) && (decide (PySem.W.subIn K (.ref (A.getD 14 0)) (.type "BaseException") = some true) && (decide (PySem.W.typeIn K (.ref (A.getD 14 0)) = some (.type "type")) && (PySem.W.keepIn K (.ref (A.getD 14 0)) && (decide (PySem.W.findIn K (.ref (A.getD 14 0)) "__init__" = some (some (.ref (A.getD 39 0)))) && (decide (PySem.W.typeIn K (.ref (A.getD 39 0)) = some (.type "function")) && (xfB K (A.getD 14 0) && (decide (PySem.W.findIn K (.ref (A.getD 14 0)) "page" = some none) && (decide (PySem.W.nsIn K mainGlobals "NoTerms" = some (some (.ref (A.getD 15 0)))) && (PySem.W.excIn K (A.getD 15 0) [.type "ValueError", .type "Exception", .type "BaseException", .type "object"] "ValueError.__new__" && (PySem.W.keepIn K (.ref (A.getD 15 0)) && (decide (PySem.W.subIn K (.ref (A.getD 15 0)) (.type "BaseException") = some true) && (decide (PySem.W.typeIn K (.ref (A.getD 15 0)) = some (.type "type")) && (decide (PySem.W.nsIn K mainGlobals "NoSheet" = some (some (.ref (A.getD 16 0)))) && (PySem.W.excIn K (A.getD 16 0) [.type "ValueError", .type "Exception", .type "BaseException", .type "object"] "ValueError.__new__" && (PySem.W.keepIn K (.ref (A.getD 16 0))))))))))))))))))))))))))
theorem fsK11_ok {K : PySem.W.Frag} {A : List Addr} (h : fsK11 K A = true) : (PySem.W.subIn K (.ref (A.getD 13 0)) (.type "BaseException") = some true) ∧ (PySem.W.typeIn K (.ref (A.getD 13 0)) = some (.type "type")) ∧ (PySem.W.keepIn K (.ref (A.getD 13 0)) = true) ∧ (PySem.W.findIn K (.ref (A.getD 13 0)) "__init__" = some (some (.ref (A.getD 38 0)))) ∧ (PySem.W.typeIn K (.ref (A.getD 38 0)) = some (.type "function")) ∧ (xfB K (A.getD 13 0) = true) ∧ (PySem.W.findIn K (.ref (A.getD 13 0)) "block" = some none) ∧ (PySem.W.nsIn K mainGlobals "NotClear" = some (some (.ref (A.getD 14 0)))) ∧ (oexB K (A.getD 14 0) = true) ∧ (PySem.W.findIn K (.ref (A.getD 14 0)) "__setattr__" = some (some (.builtin "object.__setattr__"))) ∧ (PySem.W.subIn K (.ref (A.getD 14 0)) (.type "BaseException") = some true) ∧ (PySem.W.typeIn K (.ref (A.getD 14 0)) = some (.type "type")) ∧ (PySem.W.keepIn K (.ref (A.getD 14 0)) = true) ∧ (PySem.W.findIn K (.ref (A.getD 14 0)) "__init__" = some (some (.ref (A.getD 39 0)))) ∧ (PySem.W.typeIn K (.ref (A.getD 39 0)) = some (.type "function")) ∧ (xfB K (A.getD 14 0) = true) ∧ (PySem.W.findIn K (.ref (A.getD 14 0)) "page" = some none) ∧ (PySem.W.nsIn K mainGlobals "NoTerms" = some (some (.ref (A.getD 15 0)))) ∧ (PySem.W.excIn K (A.getD 15 0) [.type "ValueError", .type "Exception", .type "BaseException", .type "object"] "ValueError.__new__" = true) ∧ (PySem.W.keepIn K (.ref (A.getD 15 0)) = true) ∧ (PySem.W.subIn K (.ref (A.getD 15 0)) (.type "BaseException") = some true) ∧ (PySem.W.typeIn K (.ref (A.getD 15 0)) = some (.type "type")) ∧ (PySem.W.nsIn K mainGlobals "NoSheet" = some (some (.ref (A.getD 16 0)))) ∧ (PySem.W.excIn K (A.getD 16 0) [.type "ValueError", .type "Exception", .type "BaseException", .type "object"] "ValueError.__new__" = true) ∧ (PySem.W.keepIn K (.ref (A.getD 16 0)) = true) := by
  unfold fsK11 at h
  obtain ⟨h0, h⟩ := He.ba h
  obtain ⟨h1, h⟩ := He.ba h
  obtain ⟨h2, h⟩ := He.ba h
  obtain ⟨h3, h⟩ := He.ba h
  obtain ⟨h4, h⟩ := He.ba h
  obtain ⟨h5, h⟩ := He.ba h
  obtain ⟨h6, h⟩ := He.ba h
  obtain ⟨h7, h⟩ := He.ba h
  obtain ⟨h8, h⟩ := He.ba h
  obtain ⟨h9, h⟩ := He.ba h
  obtain ⟨h10, h⟩ := He.ba h
  obtain ⟨h11, h⟩ := He.ba h
  obtain ⟨h12, h⟩ := He.ba h
  obtain ⟨h13, h⟩ := He.ba h
  obtain ⟨h14, h⟩ := He.ba h
  obtain ⟨h15, h⟩ := He.ba h
  obtain ⟨h16, h⟩ := He.ba h
  obtain ⟨h17, h⟩ := He.ba h
  obtain ⟨h18, h⟩ := He.ba h
  obtain ⟨h19, h⟩ := He.ba h
  obtain ⟨h20, h⟩ := He.ba h
  obtain ⟨h21, h⟩ := He.ba h
  obtain ⟨h22, h⟩ := He.ba h
  obtain ⟨h23, h⟩ := He.ba h
  exact ⟨of_decide_eq_true h0, of_decide_eq_true h1, h2, of_decide_eq_true h3, of_decide_eq_true h4, h5, of_decide_eq_true h6, of_decide_eq_true h7, h8, of_decide_eq_true h9, of_decide_eq_true h10, of_decide_eq_true h11, h12, of_decide_eq_true h13, of_decide_eq_true h14, h15, of_decide_eq_true h16, of_decide_eq_true h17, h18, h19, of_decide_eq_true h20, of_decide_eq_true h21, of_decide_eq_true h22, h23, h⟩
def fsK12 (K : PySem.W.Frag) (A : List Addr) : Bool := decide (PySem.W.subIn K (.ref (A.getD 16 0)) (.type "BaseException") = some true) && (decide (PySem.W.typeIn K (.ref (A.getD 16 0)) = some (.type "type")) && (decide (PySem.W.nsIn K mainGlobals "NoValue" = some (some (.ref (A.getD 17 0)))) && (PySem.W.excIn K (A.getD 17 0) [.type "ValueError", .type "Exception", .type "BaseException", .type "object"] "ValueError.__new__" && (PySem.W.keepIn K (.ref (A.getD 17 0)) && (decide (PySem.W.subIn K (.ref (A.getD 17 0)) (.type "BaseException") = some true) && (decide (PySem.W.typeIn K (.ref (A.getD 17 0)) = some (.type "type")) && (decide (PySem.W.nsIn K mainGlobals "Full" = some (some (.ref (A.getD 18 0)))) && (PySem.W.excIn K (A.getD 18 0) [.type "ValueError", .type "Exception", .type "BaseException", .type "object"] "ValueError.__new__" && (PySem.W.keepIn K (.ref (A.getD 18 0)) && (decide (PySem.W.subIn K (.ref (A.getD 18 0)) (.type "BaseException") = some true) && (decide (PySem.W.typeIn K (.ref (A.getD 18 0)) = some (.type "type")) && (decide (PySem.W.nsIn K mainGlobals "NoRoom" = some (some (.ref (A.getD 19 0)))) && (PySem.W.excIn K (A.getD 19 0) [.type "ValueError", .type "Exception", .type "BaseException", .type "object"] "ValueError.__new__" && (PySem.W.keepIn K (.ref (A.getD 19 0)) && (decide (PySem.W.subIn K (.ref (A.getD 19 0)) (.type "BaseException") = some true) && (decide (PySem.W.typeIn K (.ref (A.getD 19 0)) = some (.type "type")) && (decide (PySem.W.specialIn K (.ref (A.getD 9 0)) "__getattribute__" = some (some (.builtin "type.__getattribute__"))) && (PySem.W.readsIn K (A.getD 9 0) (.type "type") && (fclB (PySem.W.findCls K (.ref (A.getD 9 0)) (.type "type") "__init__") (.builtin "ValueError.__init__") && (decide (PySem.W.specialIn K (.ref (A.getD 3 0)) "__getattribute__" = some (some (.builtin "type.__getattribute__"))) && (PySem.W.readsIn K (A.getD 3 0) (.type "type") && (fclB (PySem.W.findCls K (.ref (A.getD 3 0)) (.type "type") "__init__") (.ref (A.getD 52 0)) && (decide (PySem.W.findIn K (.ref (A.getD 5 0)) "__class__" = some (some (.builtin "object.__class__"))) && (decide (PySem.W.specialIn K (.builtin "object.__class__") "__get__" = some (some (.builtin "getset_descriptor.__get__")))))))))))))))))))))))))))
theorem fsK12_ok {K : PySem.W.Frag} {A : List Addr} (h : fsK12 K A = true) : (PySem.W.subIn K (.ref (A.getD 16 0)) (.type "BaseException") = some true) ∧ (PySem.W.typeIn K (.ref (A.getD 16 0)) = some (.type "type")) ∧ (PySem.W.nsIn K mainGlobals "NoValue" = some (some (.ref (A.getD 17 0)))) ∧ (PySem.W.excIn K (A.getD 17 0) [.type "ValueError", .type "Exception", .type "BaseException", .type "object"] "ValueError.__new__" = true) ∧ (PySem.W.keepIn K (.ref (A.getD 17 0)) = true) ∧ (PySem.W.subIn K (.ref (A.getD 17 0)) (.type "BaseException") = some true) ∧ (PySem.W.typeIn K (.ref (A.getD 17 0)) = some (.type "type")) ∧ (PySem.W.nsIn K mainGlobals "Full" = some (some (.ref (A.getD 18 0)))) ∧ (PySem.W.excIn K (A.getD 18 0) [.type "ValueError", .type "Exception", .type "BaseException", .type "object"] "ValueError.__new__" = true) ∧ (PySem.W.keepIn K (.ref (A.getD 18 0)) = true) ∧ (PySem.W.subIn K (.ref (A.getD 18 0)) (.type "BaseException") = some true) ∧ (PySem.W.typeIn K (.ref (A.getD 18 0)) = some (.type "type")) ∧ (PySem.W.nsIn K mainGlobals "NoRoom" = some (some (.ref (A.getD 19 0)))) ∧ (PySem.W.excIn K (A.getD 19 0) [.type "ValueError", .type "Exception", .type "BaseException", .type "object"] "ValueError.__new__" = true) ∧ (PySem.W.keepIn K (.ref (A.getD 19 0)) = true) ∧ (PySem.W.subIn K (.ref (A.getD 19 0)) (.type "BaseException") = some true) ∧ (PySem.W.typeIn K (.ref (A.getD 19 0)) = some (.type "type")) ∧ (PySem.W.specialIn K (.ref (A.getD 9 0)) "__getattribute__" = some (some (.builtin "type.__getattribute__"))) ∧ (PySem.W.readsIn K (A.getD 9 0) (.type "type") = true) ∧ (fclB (PySem.W.findCls K (.ref (A.getD 9 0)) (.type "type") "__init__") (.builtin "ValueError.__init__") = true) ∧ (PySem.W.specialIn K (.ref (A.getD 3 0)) "__getattribute__" = some (some (.builtin "type.__getattribute__"))) ∧ (PySem.W.readsIn K (A.getD 3 0) (.type "type") = true) ∧ (fclB (PySem.W.findCls K (.ref (A.getD 3 0)) (.type "type") "__init__") (.ref (A.getD 52 0)) = true) ∧ (PySem.W.findIn K (.ref (A.getD 5 0)) "__class__" = some (some (.builtin "object.__class__"))) ∧ (PySem.W.specialIn K (.builtin "object.__class__") "__get__" = some (some (.builtin "getset_descriptor.__get__"))) := by
  unfold fsK12 at h
  obtain ⟨h0, h⟩ := He.ba h
  obtain ⟨h1, h⟩ := He.ba h
  obtain ⟨h2, h⟩ := He.ba h
  obtain ⟨h3, h⟩ := He.ba h
  obtain ⟨h4, h⟩ := He.ba h
  obtain ⟨h5, h⟩ := He.ba h
  obtain ⟨h6, h⟩ := He.ba h
  obtain ⟨h7, h⟩ := He.ba h
  obtain ⟨h8, h⟩ := He.ba h
  obtain ⟨h9, h⟩ := He.ba h
  obtain ⟨h10, h⟩ := He.ba h
  obtain ⟨h11, h⟩ := He.ba h
  obtain ⟨h12, h⟩ := He.ba h
  obtain ⟨h13, h⟩ := He.ba h
  obtain ⟨h14, h⟩ := He.ba h
  obtain ⟨h15, h⟩ := He.ba h
  obtain ⟨h16, h⟩ := He.ba h
  obtain ⟨h17, h⟩ := He.ba h
  obtain ⟨h18, h⟩ := He.ba h
  obtain ⟨h19, h⟩ := He.ba h
  obtain ⟨h20, h⟩ := He.ba h
  obtain ⟨h21, h⟩ := He.ba h
  obtain ⟨h22, h⟩ := He.ba h
  obtain ⟨h23, h⟩ := He.ba h
  exact ⟨of_decide_eq_true h0, of_decide_eq_true h1, of_decide_eq_true h2, h3, h4, of_decide_eq_true h5, of_decide_eq_true h6, of_decide_eq_true h7, h8, h9, of_decide_eq_true h10, of_decide_eq_true h11, of_decide_eq_true h12, h13, h14, of_decide_eq_true h15, of_decide_eq_true h16, of_decide_eq_true h17, h18, h19, of_decide_eq_true h20, h21, h22, of_decide_eq_true h23, of_decide_eq_true h⟩
def fsK13 (K : PySem.W.Frag) (A : List Addr) : Bool := decide (PySem.W.takesIn K (.builtin "object.__class__") = some true) && (decide (PySem.W.mroIn K (A.getD 5 0) (.type "object") = some true) && (decide (PySem.W.kitOne K (.ref (A.getD 5 0)) (.ref (A.getD 4 0)) = some true) && (decide (PySem.W.kitOne K (.ref (A.getD 5 0)) (.ref (A.getD 3 0)) = some true) && (decide (PySem.W.exmOne K (.ref (A.getD 19 0)) (.ref (A.getD 13 0)) = some false) && (decide (PySem.W.exmOne K (.ref (A.getD 15 0)) (.ref (A.getD 13 0)) = some false) && (decide (PySem.W.exmOne K (.ref (A.getD 16 0)) (.ref (A.getD 13 0)) = some false) && (decide (PySem.W.exmOne K (.ref (A.getD 17 0)) (.ref (A.getD 13 0)) = some false) && (decide (PySem.W.exmOne K (.ref (A.getD 18 0)) (.ref (A.getD 13 0)) = some false) && (decide (PySem.W.exmOne K (.ref (A.getD 10 0)) (.ref (A.getD 13 0)) = some false) && (decide (PySem.W.exmOne K (.ref (A.getD 11 0)) (.ref (A.getD 13 0)) = some false) && (decide (PySem.W.exmOne K (.ref (A.getD 12 0)) (.ref (A.getD 13 0)) = some false) && (decide (PySem.W.exmOne K (.ref (A.getD 13 0)) (.ref (A.getD 13 0)) = some true) && (decide (PySem.W.exmOne K (.ref (A.getD 14 0)) (.ref (A.getD 13 0)) = some false) && (decide (PySem.W.nsIn K mainGlobals "len" = some none) && (decide (PySem.W.nsIn K mainGlobals "isinstance" = some none) && (decide (PySem.W.nsIn K mainGlobals "min" = some none) && (decide (PySem.W.nsIn K mainGlobals "max" = some none) && (decide (PySem.W.nsIn K mainGlobals "sorted" = some none) && (decide (PySem.W.nsIn K mainGlobals "int" = some none) && (decide (PySem.W.nsIn K mainGlobals "str" = some none) && (decide (PySem.W.nsIn K mainGlobals "list" = some none) && (decide (PySem.W.nsIn K mainGlobals "bool" = some none) && (decide (PySem.W.nsIn K mainGlobals "range" = some none) && (decide (PySem.W.nsIn K mainGlobals "ValueError" = some none)))))))))))))))))))))))))
theorem fsK13_ok {K : PySem.W.Frag} {A : List Addr} (h : fsK13 K A = true) : (PySem.W.takesIn K (.builtin "object.__class__") = some true) ∧ (PySem.W.mroIn K (A.getD 5 0) (.type "object") = some true) ∧ (PySem.W.kitOne K (.ref (A.getD 5 0)) (.ref (A.getD 4 0)) = some true) ∧ (PySem.W.kitOne K (.ref (A.getD 5 0)) (.ref (A.getD 3 0)) = some true) ∧ (PySem.W.exmOne K (.ref (A.getD 19 0)) (.ref (A.getD 13 0)) = some false) ∧ (PySem.W.exmOne K (.ref (A.getD 15 0)) (.ref (A.getD 13 0)) = some false) ∧ (PySem.W.exmOne K (.ref (A.getD 16 0)) (.ref (A.getD 13 0)) = some false) ∧ (PySem.W.exmOne K (.ref (A.getD 17 0)) (.ref (A.getD 13 0)) = some false) ∧ (PySem.W.exmOne K (.ref (A.getD 18 0)) (.ref (A.getD 13 0)) = some false) ∧ (PySem.W.exmOne K (.ref (A.getD 10 0)) (.ref (A.getD 13 0)) = some false) ∧ (PySem.W.exmOne K (.ref (A.getD 11 0)) (.ref (A.getD 13 0)) = some false) ∧ (PySem.W.exmOne K (.ref (A.getD 12 0)) (.ref (A.getD 13 0)) = some false) ∧ (PySem.W.exmOne K (.ref (A.getD 13 0)) (.ref (A.getD 13 0)) = some true) ∧ (PySem.W.exmOne K (.ref (A.getD 14 0)) (.ref (A.getD 13 0)) = some false) ∧ (PySem.W.nsIn K mainGlobals "len" = some none) ∧ (PySem.W.nsIn K mainGlobals "isinstance" = some none) ∧ (PySem.W.nsIn K mainGlobals "min" = some none) ∧ (PySem.W.nsIn K mainGlobals "max" = some none) ∧ (PySem.W.nsIn K mainGlobals "sorted" = some none) ∧ (PySem.W.nsIn K mainGlobals "int" = some none) ∧ (PySem.W.nsIn K mainGlobals "str" = some none) ∧ (PySem.W.nsIn K mainGlobals "list" = some none) ∧ (PySem.W.nsIn K mainGlobals "bool" = some none) ∧ (PySem.W.nsIn K mainGlobals "range" = some none) ∧ (PySem.W.nsIn K mainGlobals "ValueError" = some none) := by
  unfold fsK13 at h
  obtain ⟨h0, h⟩ := He.ba h
  obtain ⟨h1, h⟩ := He.ba h
  obtain ⟨h2, h⟩ := He.ba h
  obtain ⟨h3, h⟩ := He.ba h
  obtain ⟨h4, h⟩ := He.ba h
  obtain ⟨h5, h⟩ := He.ba h
  obtain ⟨h6, h⟩ := He.ba h
  obtain ⟨h7, h⟩ := He.ba h
  obtain ⟨h8, h⟩ := He.ba h
  obtain ⟨h9, h⟩ := He.ba h
  obtain ⟨h10, h⟩ := He.ba h
  obtain ⟨h11, h⟩ := He.ba h
  obtain ⟨h12, h⟩ := He.ba h
  obtain ⟨h13, h⟩ := He.ba h
  obtain ⟨h14, h⟩ := He.ba h
  obtain ⟨h15, h⟩ := He.ba h
  obtain ⟨h16, h⟩ := He.ba h
  obtain ⟨h17, h⟩ := He.ba h
  obtain ⟨h18, h⟩ := He.ba h
  obtain ⟨h19, h⟩ := He.ba h
  obtain ⟨h20, h⟩ := He.ba h
  obtain ⟨h21, h⟩ := He.ba h
  obtain ⟨h22, h⟩ := He.ba h
  obtain ⟨h23, h⟩ := He.ba h
  exact ⟨of_decide_eq_true h0, of_decide_eq_true h1, of_decide_eq_true h2, of_decide_eq_true h3, of_decide_eq_true h4, of_decide_eq_true h5, of_decide_eq_true h6, of_decide_eq_true h7, of_decide_eq_true h8, of_decide_eq_true h9, of_decide_eq_true h10, of_decide_eq_true h11, of_decide_eq_true h12, of_decide_eq_true h13, of_decide_eq_true h14, of_decide_eq_true h15, of_decide_eq_true h16, of_decide_eq_true h17, of_decide_eq_true h18, of_decide_eq_true h19, of_decide_eq_true h20, of_decide_eq_true h21, of_decide_eq_true h22, of_decide_eq_true h23, of_decide_eq_true h⟩
def fsK14 (K : PySem.W.Frag) (A : List Addr) : Bool := decide (PySem.W.nsIn K mainGlobals "ROLL" = some (some (gvK K "ROLL"))) && (He.relB (V.int (64)) (gvK K "ROLL") && (decide (PySem.W.nsIn K mainGlobals "MANY" = some (some (gvK K "MANY"))) && (He.relB (V.int (16)) (gvK K "MANY") && (decide (PySem.W.nsIn K mainGlobals "MOST" = some (some (gvK K "MOST"))) && (He.relB (V.int (1000000)) (gvK K "MOST"))))))
theorem fsK14_ok {K : PySem.W.Frag} {A : List Addr} (h : fsK14 K A = true) : (PySem.W.nsIn K mainGlobals "ROLL" = some (some (gvK K "ROLL"))) ∧ (He.relB (V.int (64)) (gvK K "ROLL") = true) ∧ (PySem.W.nsIn K mainGlobals "MANY" = some (some (gvK K "MANY"))) ∧ (He.relB (V.int (16)) (gvK K "MANY") = true) ∧ (PySem.W.nsIn K mainGlobals "MOST" = some (some (gvK K "MOST"))) ∧ (He.relB (V.int (1000000)) (gvK K "MOST") = true) := by
  unfold fsK14 at h
  obtain ⟨h0, h⟩ := He.ba h
  obtain ⟨h1, h⟩ := He.ba h
  obtain ⟨h2, h⟩ := He.ba h
  obtain ⟨h3, h⟩ := He.ba h
  obtain ⟨h4, h⟩ := He.ba h
  exact ⟨of_decide_eq_true h0, h1, of_decide_eq_true h2, h3, of_decide_eq_true h4, h⟩
def fsK (K : PySem.W.Frag) (A : List Addr) : Bool := fsK0 K A && (fsK1 K A && (fsK2 K A && (fsK3 K A && (fsK4 K A && (fsK5 K A && (fsK6 K A && (fsK7 K A && (fsK8 K A && (fsK9 K A && (fsK10 K A && (fsK11 K A && (fsK12 K A && (fsK13 K A && (fsK14 K A))))))))))))))
def fnK0 : List DefK := [⟨38, "__init__", "BlockFailed.__init__", defArgs s_BlockFailed_init, defBody s_BlockFailed_init, defScope s_BlockFailed_init, []⟩,
  ⟨39, "__init__", "NotClear.__init__", defArgs s_NotClear_init, defBody s_NotClear_init, defScope s_NotClear_init, []⟩,
  ⟨40, "mark_of", "mark_of", defArgs s_mark_of, defBody s_mark_of, defScope s_mark_of, []⟩,
  ⟨41, "bits_of", "bits_of", defArgs s_bits_of, defBody s_bits_of, defScope s_bits_of, []⟩,
  ⟨42, "__init__", "Book.__init__", defArgs s_Book_init, defBody s_Book_init, defScope s_Book_init, []⟩,
  ⟨43, "mark", "Book.mark", defArgs s_Book_mark, defBody s_Book_mark, defScope s_Book_mark, []⟩,
  ⟨44, "note", "Book.note", defArgs s_Book_note, defBody s_Book_note, defScope s_Book_note, []⟩,
  ⟨45, "forget", "Book.forget", defArgs s_Book_forget, defBody s_Book_forget, defScope s_Book_forget, []⟩,
  ⟨46, "emptied", "Book.emptied", defArgs s_Book_emptied, defBody s_Book_emptied, defScope s_Book_emptied, []⟩,
  ⟨47, "live_pages", "Book.live_pages", defArgs s_Book_live_pages, defBody s_Book_live_pages, defScope s_Book_live_pages, []⟩,
  ⟨48, "held", "Book.held", defArgs s_Book_held, defBody s_Book_held, defScope s_Book_held, []⟩,
  ⟨49, "tell", "Book.tell", defArgs s_Book_tell, defBody s_Book_tell, defScope s_Book_tell, []⟩,
  ⟨50, "is_whole", "is_whole", defArgs s_is_whole, defBody s_is_whole, defScope s_is_whole, []⟩,
  ⟨51, "is_within", "is_within", defArgs s_is_within, defBody s_is_within, defScope s_is_within, []⟩,
  ⟨52, "__init__", "Plain.__init__", defArgs s_Plain_init, defBody s_Plain_init, defScope s_Plain_init, []⟩,
  ⟨53, "good", "Plain.good", defArgs s_Plain_good, defBody s_Plain_good, defScope s_Plain_good, []⟩,
  ⟨54, "free", "Plain.free", defArgs s_Plain_free, defBody s_Plain_free, defScope s_Plain_free, []⟩,
  ⟨55, "part", "Plain.part", defArgs s_Plain_part, defBody s_Plain_part, defScope s_Plain_part, []⟩,
  ⟨56, "spot", "Plain.spot", defArgs s_Plain_spot, defBody s_Plain_spot, defScope s_Plain_spot, []⟩,
  ⟨57, "reserve", "Plain.reserve", defArgs s_Plain_reserve, defBody s_Plain_reserve, defScope s_Plain_reserve, []⟩]
def fnK1 : List DefK := [⟨58, "ready", "Plain.ready", defArgs s_Plain_ready, defBody s_Plain_ready, defScope s_Plain_ready, []⟩,
  ⟨59, "make_ready", "Plain.make_ready", defArgs s_Plain_make_ready, defBody s_Plain_make_ready, defScope s_Plain_make_ready, []⟩,
  ⟨60, "set_down", "Plain.set_down", defArgs s_Plain_set_down, defBody s_Plain_set_down, defScope s_Plain_set_down, []⟩,
  ⟨61, "lay", "Plain.lay", defArgs s_Plain_lay, defBody s_Plain_lay, defScope s_Plain_lay, []⟩,
  ⟨62, "need_sheet", "Plain.need_sheet", defArgs s_Plain_need_sheet, defBody s_Plain_need_sheet, defScope s_Plain_need_sheet, []⟩,
  ⟨63, "write", "Plain.write", defArgs s_Plain_write, defBody s_Plain_write, defScope s_Plain_write, []⟩,
  ⟨64, "read", "Plain.read", defArgs s_Plain_read, defBody s_Plain_read, defScope s_Plain_read, []⟩,
  ⟨65, "held", "Plain.held", defArgs s_Plain_held, defBody s_Plain_held, defScope s_Plain_held, []⟩,
  ⟨66, "__init__", "Store.__init__", defArgs s_Store_init, defBody s_Store_init, defScope s_Store_init, []⟩,
  ⟨67, "reserve", "Store.reserve", defArgs s_Store_reserve, defBody s_Store_reserve, defScope s_Store_reserve, []⟩,
  ⟨68, "space", "Store.space", defArgs s_Store_space, defBody s_Store_space, defScope s_Store_space, []⟩,
  ⟨69, "tally", "Store.tally", defArgs s_Store_tally, defBody s_Store_tally, defScope s_Store_tally, []⟩,
  ⟨70, "full_ones", "Store.full_ones", defArgs s_Store_full_ones, defBody s_Store_full_ones, defScope s_Store_full_ones, []⟩,
  ⟨71, "options", "Store.options", defArgs s_Store_options, defBody s_Store_options, defScope s_Store_options, []⟩,
  ⟨72, "otherwise", "Store.otherwise", defArgs s_Store_otherwise, defBody s_Store_otherwise, defScope s_Store_otherwise, []⟩,
  ⟨73, "choice", "Store.choice", defArgs s_Store_choice, defBody s_Store_choice, defScope s_Store_choice, []⟩,
  ⟨74, "value_for", "Store.value_for", defArgs s_Store_value_for, defBody s_Store_value_for, defScope s_Store_value_for, []⟩,
  ⟨75, "moved", "Store.moved", defArgs s_Store_moved, defBody s_Store_moved, defScope s_Store_moved, []⟩,
  ⟨76, "wiped", "Store.wiped", defArgs s_Store_wiped, defBody s_Store_wiped, defScope s_Store_wiped, []⟩,
  ⟨77, "make_room", "Store.make_room", defArgs s_Store_make_room, defBody s_Store_make_room, defScope s_Store_make_room, []⟩]
def fnK2 : List DefK := [⟨78, "make_ready", "Store.make_ready", defArgs s_Store_make_ready, defBody s_Store_make_ready, defScope s_Store_make_ready, []⟩,
  ⟨79, "blocks_taken", "blocks_taken", defArgs s_blocks_taken, defBody s_blocks_taken, defScope s_blocks_taken, []⟩,
  ⟨80, "clearings_of", "Even.clearings_of", defArgs s_Even_clearings_of, defBody s_Even_clearings_of, defScope s_Even_clearings_of, []⟩,
  ⟨81, "least", "Even.least", defArgs s_Even_least, defBody s_Even_least, defScope s_Even_least, []⟩,
  ⟨82, "gap", "Even.gap", defArgs s_Even_gap, defBody s_Even_gap, defScope s_Even_gap, []⟩,
  ⟨83, "spared", "Even.spared", defArgs s_Even_spared, defBody s_Even_spared, defScope s_Even_spared, []⟩,
  ⟨84, "options", "Even.options", defArgs s_Even_options, defBody s_Even_options, defScope s_Even_options, []⟩,
  ⟨85, "otherwise", "Even.otherwise", defArgs s_Even_otherwise, defBody s_Even_otherwise, defScope s_Even_otherwise, []⟩,
  ⟨86, "changes", "Even.changes", defArgs s_Even_changes, defBody s_Even_changes, defScope s_Even_changes, []⟩,
  ⟨87, "endurance", "endurance", defArgs s_endurance, defBody s_endurance, defScope s_endurance, []⟩,
  ⟨88, "__init__", "Chip.__init__", defArgs s_Chip_init, defBody s_Chip_init, defScope s_Chip_init, [.int (1000000), .non]⟩,
  ⟨89, "need_page", "Chip.need_page", defArgs s_Chip_need_page, defBody s_Chip_need_page, defScope s_Chip_need_page, []⟩,
  ⟨90, "need_block", "Chip.need_block", defArgs s_Chip_need_block, defBody s_Chip_need_block, defScope s_Chip_need_block, []⟩,
  ⟨91, "need_power", "Chip.need_power", defArgs s_Chip_need_power, defBody s_Chip_need_power, defScope s_Chip_need_power, []⟩,
  ⟨92, "need_good", "Chip.need_good", defArgs s_Chip_need_good, defBody s_Chip_need_good, defScope s_Chip_need_good, []⟩,
  ⟨93, "goes_well", "Chip.goes_well", defArgs s_Chip_goes_well, defBody s_Chip_goes_well, defScope s_Chip_goes_well, []⟩,
  ⟨94, "put", "Chip.put", defArgs s_Chip_put, defBody s_Chip_put, defScope s_Chip_put, []⟩,
  ⟨95, "wipe", "Chip.wipe", defArgs s_Chip_wipe, defBody s_Chip_wipe, defScope s_Chip_wipe, []⟩,
  ⟨96, "read", "Chip.read", defArgs s_Chip_read, defBody s_Chip_read, defScope s_Chip_read, []⟩,
  ⟨97, "is_dark", "Chip.is_dark", defArgs s_Chip_is_dark, defBody s_Chip_is_dark, defScope s_Chip_is_dark, []⟩]
def fnK3 : List DefK := [⟨98, "cleared", "Chip.cleared", defArgs s_Chip_cleared, defBody s_Chip_cleared, defScope s_Chip_cleared, []⟩,
  ⟨99, "failed", "Chip.failed", defArgs s_Chip_failed, defBody s_Chip_failed, defScope s_Chip_failed, []⟩,
  ⟨100, "deeds", "Chip.deeds", defArgs s_Chip_deeds, defBody s_Chip_deeds, defScope s_Chip_deeds, []⟩,
  ⟨101, "goes_ahead", "Rule.goes_ahead", defArgs s_Rule_goes_ahead, defBody s_Rule_goes_ahead, defScope s_Rule_goes_ahead, []⟩,
  ⟨102, "choose", "Rule.choose", defArgs s_Rule_choose, defBody s_Rule_choose, defScope s_Rule_choose, []⟩,
  ⟨103, "__init__", "Terms.__init__", defArgs s_Terms_init, defBody s_Terms_init, defScope s_Terms_init, [.int (0), .int (1000000)]⟩,
  ⟨104, "closed", "Terms.closed", defArgs s_Terms_closed, defBody s_Terms_closed, defScope s_Terms_closed, []⟩,
  ⟨105, "_law_cell_at", "_law_cell_at", defArgs s__law_cell_at, defBody s__law_cell_at, defScope s__law_cell_at, []⟩,
  ⟨106, "_law_whole", "_law_whole", defArgs s__law_whole, defBody s__law_whole, defScope s__law_whole, []⟩,
  ⟨107, "_law_mix", "_law_mix", defArgs s__law_mix, defBody s__law_mix, defScope s__law_mix, []⟩,
  ⟨108, "_law_ills", "_law_ills", defArgs s__law_ills, defBody s__law_ills, defScope s__law_ills, []⟩,
  ⟨109, "_law_wiped", "_law_wiped", defArgs s__law_wiped, defBody s__law_wiped, defScope s__law_wiped, []⟩,
  ⟨110, "_law_due", "_law_due", defArgs s__law_due, defBody s__law_due, defScope s__law_due, []⟩,
  ⟨111, "_law_right", "_law_right", defArgs s__law_right, defBody s__law_right, defScope s__law_right, []⟩,
  ⟨112, "law", "law", defArgs s_law, defBody s_law, defScope s_law, []⟩]
def fnK : List DefK := fnK0 ++ (fnK1 ++ (fnK2 ++ (fnK3)))
theorem txt_of {l : PySem.W.OpenLaw} {w : World} {K : PySem.W.Frag} {h : Heap} {mg : Str → Option Value} {fa : Addr} {A : List Addr} (X : K.In h) (G : h.Ns mainGlobals mg) (hfa : mg "law" = some (.ref fa)) (c : SaysK fsK fnK K A) :
    ∃ fd : FuncData, (∀ (s : Shared) (v : Value), BindsTo s fd ⟨[v], []⟩ [("_law_script", v)]) ∧ ∀ base : Heap, K.In base → base.Ns mainGlobals mg → FnOk l.prog w K mg base (L2.CX l.prog w) 9 fa fd ["_law_script"] (spLaw K) := by
  have hh := c.facts
  unfold fsK at hh
  obtain ⟨hc0, hh⟩ := He.ba hh
  obtain ⟨a_mark_of, a_bits_of, a_is_whole, a_is_within, a_blocks_taken, a_endurance, a__law_cell_at, a__law_whole, a__law_mix, a__law_ills, a__law_wiped, a__law_due, a__law_right, a_law, aC_Book, pg_Book, hd_Book, po_Book, sa_Book, na_Book_blocks, na_Book_pages, na_Book_where, na_Book_names, na_Book_live, na_Book_filled⟩ := fsK0_ok hc0
  obtain ⟨hc1, hh⟩ := He.ba hh
  obtain ⟨na_Book_born, na_Book_stamp, at_Book_init, fn_Book_init, mi_Book, kc_Book, at_Book_mark, fn_Book_mark, at_Book_note, fn_Book_note, at_Book_forget, fn_Book_forget, at_Book_emptied, fn_Book_emptied, at_Book_live_pages, fn_Book_live_pages, at_Book_held, fn_Book_held, at_Book_tell, fn_Book_tell, aC_Plain, pg_Plain, hd_Plain, po_Plain, sa_Plain⟩ := fsK1_ok hc1
  obtain ⟨hc2, hh⟩ := He.ba hh
  obtain ⟨na_Plain_chip, na_Plain_terms, na_Plain_book, at_Plain_init, fn_Plain_init, mi_Plain, kc_Plain, at_Plain_good, fn_Plain_good, at_Plain_free, fn_Plain_free, at_Plain_part, fn_Plain_part, at_Plain_spot, fn_Plain_spot, at_Plain_reserve, fn_Plain_reserve, at_Plain_ready, fn_Plain_ready, at_Plain_make_ready, fn_Plain_make_ready, at_Plain_set_down, fn_Plain_set_down, at_Plain_lay, fn_Plain_lay⟩ := fsK2_ok hc2
  obtain ⟨hc3, hh⟩ := He.ba hh
  obtain ⟨at_Plain_need_sheet, fn_Plain_need_sheet, at_Plain_write, fn_Plain_write, at_Plain_read, fn_Plain_read, at_Plain_held, fn_Plain_held, aC_Store, pg_Store, hd_Store, po_Store, sa_Store, na_Store_rule, na_Store_papers, na_Store_chip, na_Store_terms, na_Store_book, at_Store_init, fn_Store_init, mi_Store, kc_Store, at_Store_good, at_Store_free, at_Store_part⟩ := fsK3_ok hc3
  obtain ⟨hc4, hh⟩ := He.ba hh
  obtain ⟨at_Store_spot, at_Store_reserve, fn_Store_reserve, at_Store_ready, at_Store_make_ready, fn_Store_make_ready, at_Store_set_down, at_Store_lay, at_Store_need_sheet, at_Store_write, at_Store_read, at_Store_held, at_Store_space, fn_Store_space, at_Store_tally, fn_Store_tally, at_Store_full_ones, fn_Store_full_ones, at_Store_options, fn_Store_options, at_Store_otherwise, fn_Store_otherwise, at_Store_choice, fn_Store_choice, at_Store_value_for⟩ := fsK4_ok hc4
  obtain ⟨hc5, hh⟩ := He.ba hh
  obtain ⟨fn_Store_value_for, at_Store_moved, fn_Store_moved, at_Store_wiped, fn_Store_wiped, at_Store_make_room, fn_Store_make_room, aC_Even, pg_Even, hd_Even, po_Even, sa_Even, na_Even_rule, na_Even_papers, na_Even_chip, na_Even_terms, na_Even_book, at_Even_init, mi_Even, kc_Even, at_Even_good, at_Even_free, at_Even_part, at_Even_spot, at_Even_reserve⟩ := fsK5_ok hc5
  obtain ⟨hc6, hh⟩ := He.ba hh
  obtain ⟨at_Even_ready, at_Even_make_ready, at_Even_set_down, at_Even_lay, at_Even_need_sheet, at_Even_write, at_Even_read, at_Even_held, at_Even_space, at_Even_tally, at_Even_full_ones, at_Even_options, fn_Even_options, at_Even_otherwise, fn_Even_otherwise, at_Even_choice, at_Even_value_for, at_Even_moved, at_Even_wiped, at_Even_make_room, at_Even_clearings_of, fn_Even_clearings_of, at_Even_least, fn_Even_least, at_Even_gap⟩ := fsK6_ok hc6
  obtain ⟨hc7, hh⟩ := He.ba hh
  obtain ⟨fn_Even_gap, at_Even_spared, fn_Even_spared, at_Even_changes, fn_Even_changes, aC_Chip, pg_Chip, hd_Chip, po_Chip, sa_Chip, na_Chip_blocks, na_Chip_pages, na_Chip_most, na_Chip_lasts, na_Chip_stuff, na_Chip_tried, na_Chip_clearings, na_Chip_broken, na_Chip_left, na_Chip_log, at_Chip_init, fn_Chip_init, mi_Chip, kc_Chip, at_Chip_need_page⟩ := fsK7_ok hc7
  obtain ⟨hc8, hh⟩ := He.ba hh
  obtain ⟨fn_Chip_need_page, at_Chip_need_block, fn_Chip_need_block, at_Chip_need_power, fn_Chip_need_power, at_Chip_need_good, fn_Chip_need_good, at_Chip_goes_well, fn_Chip_goes_well, at_Chip_put, fn_Chip_put, at_Chip_wipe, fn_Chip_wipe, at_Chip_read, fn_Chip_read, at_Chip_is_dark, fn_Chip_is_dark, at_Chip_cleared, fn_Chip_cleared, at_Chip_failed, fn_Chip_failed, at_Chip_deeds, fn_Chip_deeds, aC_Rule, pg_Rule⟩ := fsK8_ok hc8
  obtain ⟨hc9, hh⟩ := He.ba hh
  obtain ⟨hd_Rule, po_Rule, sa_Rule, mi_Rule, kc_Rule, oi_Rule, at_Rule_goes_ahead, fn_Rule_goes_ahead, at_Rule_choose, fn_Rule_choose, aC_Terms, pg_Terms, hd_Terms, po_Terms, sa_Terms, na_Terms_blocks, na_Terms_pages, na_Terms_sheets, na_Terms_share, na_Terms_ill, na_Terms_spread, at_Terms_init, fn_Terms_init, mi_Terms, kc_Terms⟩ := fsK9_ok hc9
  obtain ⟨hc10, hh⟩ := He.ba hh
  obtain ⟨at_Terms_closed, fn_Terms_closed, aC_WornError, xq_WornError, xk_WornError, xr_WornError, xt_WornError, aC_NoChip, xq_NoChip, xk_NoChip, xr_NoChip, xt_NoChip, aC_NoPlace, xq_NoPlace, xk_NoPlace, xr_NoPlace, xt_NoPlace, aC_PowerGone, xq_PowerGone, xk_PowerGone, xr_PowerGone, xt_PowerGone, aC_BlockFailed, xl_BlockFailed, xs_BlockFailed⟩ := fsK10_ok hc10
  obtain ⟨hc11, hh⟩ := He.ba hh
  obtain ⟨xr_BlockFailed, xy_BlockFailed, xk_BlockFailed, xi_BlockFailed, xt_BlockFailed, xf_BlockFailed, nx_BlockFailed_block, aC_NotClear, xl_NotClear, xs_NotClear, xr_NotClear, xy_NotClear, xk_NotClear, xi_NotClear, xt_NotClear, xf_NotClear, nx_NotClear_page, aC_NoTerms, xq_NoTerms, xk_NoTerms, xr_NoTerms, xt_NoTerms, aC_NoSheet, xq_NoSheet, xk_NoSheet⟩ := fsK11_ok hc11
  obtain ⟨hc12, hh⟩ := He.ba hh
  obtain ⟨xr_NoSheet, xt_NoSheet, aC_NoValue, xq_NoValue, xk_NoValue, xr_NoValue, xt_NoValue, aC_Full, xq_Full, xk_Full, xr_Full, xt_Full, aC_NoRoom, xq_NoRoom, xk_NoRoom, xr_NoRoom, xt_NoRoom, wa_WornError, wr_WornError, wf_WornError, wa_Plain, wr_Plain, wf_Plain, ia_Even, in_Even⟩ := fsK12_ok hc12
  obtain ⟨hc13, hh⟩ := He.ba hh
  obtain ⟨it_Even, io_Even, kd_Even_Store, kd_Even_Plain, em_NoRoom_BlockFailed, em_NoTerms_BlockFailed, em_NoSheet_BlockFailed, em_NoValue_BlockFailed, em_Full_BlockFailed, em_NoChip_BlockFailed, em_NoPlace_BlockFailed, em_PowerGone_BlockFailed, em_BlockFailed_BlockFailed, em_NotClear_BlockFailed, z_len, z_isinstance, z_min, z_max, z_sorted, z_int, z_str, z_list, z_bool, z_range, z_ValueError⟩ := fsK13_ok hc13
  obtain ⟨v_ROLL, vr_ROLL, v_MANY, vr_MANY, v_MOST, vr_MOST⟩ := fsK14_ok hh
  have e := hfa.symm.trans (PySem.W.mg_of X G a_law)
  cases e
  obtain ⟨fd_BlockFailed_init, D_BlockFailed_init⟩ := c.def_ 0 (d := ⟨38, "__init__", "BlockFailed.__init__", defArgs s_BlockFailed_init, defBody s_BlockFailed_init, defScope s_BlockFailed_init, []⟩) rfl
  have k_BlockFailed_init : PySem.W.keepIn K (.ref (A.getD 38 0)) = true := D_BlockFailed_init.kp
  have F_BlockFailed_init : Fun K "__init__" "BlockFailed.__init__" s_BlockFailed_init (A.getD 38 0) fd_BlockFailed_init := funK_of D_BlockFailed_init
  have b_BlockFailed_init := F_BlockFailed_init.binds (ps := ["self", "block"]) fun _ _ _ _ _ _ us hl => match us, hl with | [_, _], _ => rfl
  obtain ⟨fd_NotClear_init, D_NotClear_init⟩ := c.def_ 1 (d := ⟨39, "__init__", "NotClear.__init__", defArgs s_NotClear_init, defBody s_NotClear_init, defScope s_NotClear_init, []⟩) rfl
  have k_NotClear_init : PySem.W.keepIn K (.ref (A.getD 39 0)) = true := D_NotClear_init.kp
  have F_NotClear_init : Fun K "__init__" "NotClear.__init__" s_NotClear_init (A.getD 39 0) fd_NotClear_init := funK_of D_NotClear_init
  have b_NotClear_init := F_NotClear_init.binds (ps := ["self", "page"]) fun _ _ _ _ _ _ us hl => match us, hl with | [_, _], _ => rfl
  obtain ⟨fd_mark_of, D_mark_of⟩ := c.def_ 2 (d := ⟨40, "mark_of", "mark_of", defArgs s_mark_of, defBody s_mark_of, defScope s_mark_of, []⟩) rfl
  have k_mark_of : PySem.W.keepIn K (.ref (A.getD 40 0)) = true := D_mark_of.kp
  have F_mark_of : Fun K "mark_of" "mark_of" s_mark_of (A.getD 40 0) fd_mark_of := funK_of D_mark_of
  have b_mark_of := F_mark_of.binds (ps := ["stamp", "name"]) fun _ _ _ _ _ _ us hl => match us, hl with | [_, _], _ => rfl
  obtain ⟨fd_bits_of, D_bits_of⟩ := c.def_ 3 (d := ⟨41, "bits_of", "bits_of", defArgs s_bits_of, defBody s_bits_of, defScope s_bits_of, []⟩) rfl
  have k_bits_of : PySem.W.keepIn K (.ref (A.getD 41 0)) = true := D_bits_of.kp
  have F_bits_of : Fun K "bits_of" "bits_of" s_bits_of (A.getD 41 0) fd_bits_of := funK_of D_bits_of
  have b_bits_of := F_bits_of.binds (ps := ["sheets"]) fun _ _ _ _ _ _ us hl => match us, hl with | [_], _ => rfl
  obtain ⟨fd_Book_init, D_Book_init⟩ := c.def_ 4 (d := ⟨42, "__init__", "Book.__init__", defArgs s_Book_init, defBody s_Book_init, defScope s_Book_init, []⟩) rfl
  have k_Book_init : PySem.W.keepIn K (.ref (A.getD 42 0)) = true := D_Book_init.kp
  have F_Book_init : Fun K "__init__" "Book.__init__" s_Book_init (A.getD 42 0) fd_Book_init := funK_of D_Book_init
  have b_Book_init := F_Book_init.binds (ps := ["self", "blocks", "pages"]) fun _ _ _ _ _ _ us hl => match us, hl with | [_, _, _], _ => rfl
  obtain ⟨fd_Book_mark, D_Book_mark⟩ := c.def_ 5 (d := ⟨43, "mark", "Book.mark", defArgs s_Book_mark, defBody s_Book_mark, defScope s_Book_mark, []⟩) rfl
  have k_Book_mark : PySem.W.keepIn K (.ref (A.getD 43 0)) = true := D_Book_mark.kp
  have F_Book_mark : Fun K "mark" "Book.mark" s_Book_mark (A.getD 43 0) fd_Book_mark := funK_of D_Book_mark
  have b_Book_mark := F_Book_mark.binds (ps := ["self", "name"]) fun _ _ _ _ _ _ us hl => match us, hl with | [_, _], _ => rfl
  obtain ⟨fd_Book_note, D_Book_note⟩ := c.def_ 6 (d := ⟨44, "note", "Book.note", defArgs s_Book_note, defBody s_Book_note, defScope s_Book_note, []⟩) rfl
  have k_Book_note : PySem.W.keepIn K (.ref (A.getD 44 0)) = true := D_Book_note.kp
  have F_Book_note : Fun K "note" "Book.note" s_Book_note (A.getD 44 0) fd_Book_note := funK_of D_Book_note
  have b_Book_note := F_Book_note.binds (ps := ["self", "page", "name"]) fun _ _ _ _ _ _ us hl => match us, hl with | [_, _, _], _ => rfl
  obtain ⟨fd_Book_forget, D_Book_forget⟩ := c.def_ 7 (d := ⟨45, "forget", "Book.forget", defArgs s_Book_forget, defBody s_Book_forget, defScope s_Book_forget, []⟩) rfl
  have k_Book_forget : PySem.W.keepIn K (.ref (A.getD 45 0)) = true := D_Book_forget.kp
  have F_Book_forget : Fun K "forget" "Book.forget" s_Book_forget (A.getD 45 0) fd_Book_forget := funK_of D_Book_forget
  have b_Book_forget := F_Book_forget.binds (ps := ["self", "name"]) fun _ _ _ _ _ _ us hl => match us, hl with | [_, _], _ => rfl
  obtain ⟨fd_Book_emptied, D_Book_emptied⟩ := c.def_ 8 (d := ⟨46, "emptied", "Book.emptied", defArgs s_Book_emptied, defBody s_Book_emptied, defScope s_Book_emptied, []⟩) rfl
  have k_Book_emptied : PySem.W.keepIn K (.ref (A.getD 46 0)) = true := D_Book_emptied.kp
  have F_Book_emptied : Fun K "emptied" "Book.emptied" s_Book_emptied (A.getD 46 0) fd_Book_emptied := funK_of D_Book_emptied
  have b_Book_emptied := F_Book_emptied.binds (ps := ["self", "block"]) fun _ _ _ _ _ _ us hl => match us, hl with | [_, _], _ => rfl
  obtain ⟨fd_Book_live_pages, D_Book_live_pages⟩ := c.def_ 9 (d := ⟨47, "live_pages", "Book.live_pages", defArgs s_Book_live_pages, defBody s_Book_live_pages, defScope s_Book_live_pages, []⟩) rfl
  have k_Book_live_pages : PySem.W.keepIn K (.ref (A.getD 47 0)) = true := D_Book_live_pages.kp
  have F_Book_live_pages : Fun K "live_pages" "Book.live_pages" s_Book_live_pages (A.getD 47 0) fd_Book_live_pages := funK_of D_Book_live_pages
  have b_Book_live_pages := F_Book_live_pages.binds (ps := ["self", "block"]) fun _ _ _ _ _ _ us hl => match us, hl with | [_, _], _ => rfl
  obtain ⟨fd_Book_held, D_Book_held⟩ := c.def_ 10 (d := ⟨48, "held", "Book.held", defArgs s_Book_held, defBody s_Book_held, defScope s_Book_held, []⟩) rfl
  have k_Book_held : PySem.W.keepIn K (.ref (A.getD 48 0)) = true := D_Book_held.kp
  have F_Book_held : Fun K "held" "Book.held" s_Book_held (A.getD 48 0) fd_Book_held := funK_of D_Book_held
  have b_Book_held := F_Book_held.binds (ps := ["self"]) fun _ _ _ _ _ _ us hl => match us, hl with | [_], _ => rfl
  obtain ⟨fd_Book_tell, D_Book_tell⟩ := c.def_ 11 (d := ⟨49, "tell", "Book.tell", defArgs s_Book_tell, defBody s_Book_tell, defScope s_Book_tell, []⟩) rfl
  have k_Book_tell : PySem.W.keepIn K (.ref (A.getD 49 0)) = true := D_Book_tell.kp
  have F_Book_tell : Fun K "tell" "Book.tell" s_Book_tell (A.getD 49 0) fd_Book_tell := funK_of D_Book_tell
  have b_Book_tell := F_Book_tell.binds (ps := ["self"]) fun _ _ _ _ _ _ us hl => match us, hl with | [_], _ => rfl
  obtain ⟨fd_is_whole, D_is_whole⟩ := c.def_ 12 (d := ⟨50, "is_whole", "is_whole", defArgs s_is_whole, defBody s_is_whole, defScope s_is_whole, []⟩) rfl
  have k_is_whole : PySem.W.keepIn K (.ref (A.getD 50 0)) = true := D_is_whole.kp
  have F_is_whole : Fun K "is_whole" "is_whole" s_is_whole (A.getD 50 0) fd_is_whole := funK_of D_is_whole
  have b_is_whole := F_is_whole.binds (ps := ["thing"]) fun _ _ _ _ _ _ us hl => match us, hl with | [_], _ => rfl
  obtain ⟨fd_is_within, D_is_within⟩ := c.def_ 13 (d := ⟨51, "is_within", "is_within", defArgs s_is_within, defBody s_is_within, defScope s_is_within, []⟩) rfl
  have k_is_within : PySem.W.keepIn K (.ref (A.getD 51 0)) = true := D_is_within.kp
  have F_is_within : Fun K "is_within" "is_within" s_is_within (A.getD 51 0) fd_is_within := funK_of D_is_within
  have b_is_within := F_is_within.binds (ps := ["thing", "low", "high"]) fun _ _ _ _ _ _ us hl => match us, hl with | [_, _, _], _ => rfl
  obtain ⟨fd_Plain_init, D_Plain_init⟩ := c.def_ 14 (d := ⟨52, "__init__", "Plain.__init__", defArgs s_Plain_init, defBody s_Plain_init, defScope s_Plain_init, []⟩) rfl
  have k_Plain_init : PySem.W.keepIn K (.ref (A.getD 52 0)) = true := D_Plain_init.kp
  have F_Plain_init : Fun K "__init__" "Plain.__init__" s_Plain_init (A.getD 52 0) fd_Plain_init := funK_of D_Plain_init
  have b_Plain_init := F_Plain_init.binds (ps := ["self", "chip", "terms"]) fun _ _ _ _ _ _ us hl => match us, hl with | [_, _, _], _ => rfl
  obtain ⟨fd_Plain_good, D_Plain_good⟩ := c.def_ 15 (d := ⟨53, "good", "Plain.good", defArgs s_Plain_good, defBody s_Plain_good, defScope s_Plain_good, []⟩) rfl
  have k_Plain_good : PySem.W.keepIn K (.ref (A.getD 53 0)) = true := D_Plain_good.kp
  have F_Plain_good : Fun K "good" "Plain.good" s_Plain_good (A.getD 53 0) fd_Plain_good := funK_of D_Plain_good
  have b_Plain_good := F_Plain_good.binds (ps := ["self"]) fun _ _ _ _ _ _ us hl => match us, hl with | [_], _ => rfl
  obtain ⟨fd_Plain_free, D_Plain_free⟩ := c.def_ 16 (d := ⟨54, "free", "Plain.free", defArgs s_Plain_free, defBody s_Plain_free, defScope s_Plain_free, []⟩) rfl
  have k_Plain_free : PySem.W.keepIn K (.ref (A.getD 54 0)) = true := D_Plain_free.kp
  have F_Plain_free : Fun K "free" "Plain.free" s_Plain_free (A.getD 54 0) fd_Plain_free := funK_of D_Plain_free
  have b_Plain_free := F_Plain_free.binds (ps := ["self"]) fun _ _ _ _ _ _ us hl => match us, hl with | [_], _ => rfl
  obtain ⟨fd_Plain_part, D_Plain_part⟩ := c.def_ 17 (d := ⟨55, "part", "Plain.part", defArgs s_Plain_part, defBody s_Plain_part, defScope s_Plain_part, []⟩) rfl
  have k_Plain_part : PySem.W.keepIn K (.ref (A.getD 55 0)) = true := D_Plain_part.kp
  have F_Plain_part : Fun K "part" "Plain.part" s_Plain_part (A.getD 55 0) fd_Plain_part := funK_of D_Plain_part
  have b_Plain_part := F_Plain_part.binds (ps := ["self"]) fun _ _ _ _ _ _ us hl => match us, hl with | [_], _ => rfl
  obtain ⟨fd_Plain_spot, D_Plain_spot⟩ := c.def_ 18 (d := ⟨56, "spot", "Plain.spot", defArgs s_Plain_spot, defBody s_Plain_spot, defScope s_Plain_spot, []⟩) rfl
  have k_Plain_spot : PySem.W.keepIn K (.ref (A.getD 56 0)) = true := D_Plain_spot.kp
  have F_Plain_spot : Fun K "spot" "Plain.spot" s_Plain_spot (A.getD 56 0) fd_Plain_spot := funK_of D_Plain_spot
  have b_Plain_spot := F_Plain_spot.binds (ps := ["self"]) fun _ _ _ _ _ _ us hl => match us, hl with | [_], _ => rfl
  obtain ⟨fd_Plain_reserve, D_Plain_reserve⟩ := c.def_ 19 (d := ⟨57, "reserve", "Plain.reserve", defArgs s_Plain_reserve, defBody s_Plain_reserve, defScope s_Plain_reserve, []⟩) rfl
  have k_Plain_reserve : PySem.W.keepIn K (.ref (A.getD 57 0)) = true := D_Plain_reserve.kp
  have F_Plain_reserve : Fun K "reserve" "Plain.reserve" s_Plain_reserve (A.getD 57 0) fd_Plain_reserve := funK_of D_Plain_reserve
  have b_Plain_reserve := F_Plain_reserve.binds (ps := ["self"]) fun _ _ _ _ _ _ us hl => match us, hl with | [_], _ => rfl
  obtain ⟨fd_Plain_ready, D_Plain_ready⟩ := c.def_ 20 (d := ⟨58, "ready", "Plain.ready", defArgs s_Plain_ready, defBody s_Plain_ready, defScope s_Plain_ready, []⟩) rfl
  have k_Plain_ready : PySem.W.keepIn K (.ref (A.getD 58 0)) = true := D_Plain_ready.kp
  have F_Plain_ready : Fun K "ready" "Plain.ready" s_Plain_ready (A.getD 58 0) fd_Plain_ready := funK_of D_Plain_ready
  have b_Plain_ready := F_Plain_ready.binds (ps := ["self"]) fun _ _ _ _ _ _ us hl => match us, hl with | [_], _ => rfl
  obtain ⟨fd_Plain_make_ready, D_Plain_make_ready⟩ := c.def_ 21 (d := ⟨59, "make_ready", "Plain.make_ready", defArgs s_Plain_make_ready, defBody s_Plain_make_ready, defScope s_Plain_make_ready, []⟩) rfl
  have k_Plain_make_ready : PySem.W.keepIn K (.ref (A.getD 59 0)) = true := D_Plain_make_ready.kp
  have F_Plain_make_ready : Fun K "make_ready" "Plain.make_ready" s_Plain_make_ready (A.getD 59 0) fd_Plain_make_ready := funK_of D_Plain_make_ready
  have b_Plain_make_ready := F_Plain_make_ready.binds (ps := ["self"]) fun _ _ _ _ _ _ us hl => match us, hl with | [_], _ => rfl
  obtain ⟨fd_Plain_set_down, D_Plain_set_down⟩ := c.def_ 22 (d := ⟨60, "set_down", "Plain.set_down", defArgs s_Plain_set_down, defBody s_Plain_set_down, defScope s_Plain_set_down, []⟩) rfl
  have k_Plain_set_down : PySem.W.keepIn K (.ref (A.getD 60 0)) = true := D_Plain_set_down.kp
  have F_Plain_set_down : Fun K "set_down" "Plain.set_down" s_Plain_set_down (A.getD 60 0) fd_Plain_set_down := funK_of D_Plain_set_down
  have b_Plain_set_down := F_Plain_set_down.binds (ps := ["self", "name", "value"]) fun _ _ _ _ _ _ us hl => match us, hl with | [_, _, _], _ => rfl
  obtain ⟨fd_Plain_lay, D_Plain_lay⟩ := c.def_ 23 (d := ⟨61, "lay", "Plain.lay", defArgs s_Plain_lay, defBody s_Plain_lay, defScope s_Plain_lay, []⟩) rfl
  have k_Plain_lay : PySem.W.keepIn K (.ref (A.getD 61 0)) = true := D_Plain_lay.kp
  have F_Plain_lay : Fun K "lay" "Plain.lay" s_Plain_lay (A.getD 61 0) fd_Plain_lay := funK_of D_Plain_lay
  have b_Plain_lay := F_Plain_lay.binds (ps := ["self", "name", "value"]) fun _ _ _ _ _ _ us hl => match us, hl with | [_, _, _], _ => rfl
  obtain ⟨fd_Plain_need_sheet, D_Plain_need_sheet⟩ := c.def_ 24 (d := ⟨62, "need_sheet", "Plain.need_sheet", defArgs s_Plain_need_sheet, defBody s_Plain_need_sheet, defScope s_Plain_need_sheet, []⟩) rfl
  have k_Plain_need_sheet : PySem.W.keepIn K (.ref (A.getD 62 0)) = true := D_Plain_need_sheet.kp
  have F_Plain_need_sheet : Fun K "need_sheet" "Plain.need_sheet" s_Plain_need_sheet (A.getD 62 0) fd_Plain_need_sheet := funK_of D_Plain_need_sheet
  have b_Plain_need_sheet := F_Plain_need_sheet.binds (ps := ["self", "sheet"]) fun _ _ _ _ _ _ us hl => match us, hl with | [_, _], _ => rfl
  obtain ⟨fd_Plain_write, D_Plain_write⟩ := c.def_ 25 (d := ⟨63, "write", "Plain.write", defArgs s_Plain_write, defBody s_Plain_write, defScope s_Plain_write, []⟩) rfl
  have k_Plain_write : PySem.W.keepIn K (.ref (A.getD 63 0)) = true := D_Plain_write.kp
  have F_Plain_write : Fun K "write" "Plain.write" s_Plain_write (A.getD 63 0) fd_Plain_write := funK_of D_Plain_write
  have b_Plain_write := F_Plain_write.binds (ps := ["self", "sheet", "value"]) fun _ _ _ _ _ _ us hl => match us, hl with | [_, _, _], _ => rfl
  obtain ⟨fd_Plain_read, D_Plain_read⟩ := c.def_ 26 (d := ⟨64, "read", "Plain.read", defArgs s_Plain_read, defBody s_Plain_read, defScope s_Plain_read, []⟩) rfl
  have k_Plain_read : PySem.W.keepIn K (.ref (A.getD 64 0)) = true := D_Plain_read.kp
  have F_Plain_read : Fun K "read" "Plain.read" s_Plain_read (A.getD 64 0) fd_Plain_read := funK_of D_Plain_read
  have b_Plain_read := F_Plain_read.binds (ps := ["self", "sheet"]) fun _ _ _ _ _ _ us hl => match us, hl with | [_, _], _ => rfl
  obtain ⟨fd_Plain_held, D_Plain_held⟩ := c.def_ 27 (d := ⟨65, "held", "Plain.held", defArgs s_Plain_held, defBody s_Plain_held, defScope s_Plain_held, []⟩) rfl
  have k_Plain_held : PySem.W.keepIn K (.ref (A.getD 65 0)) = true := D_Plain_held.kp
  have F_Plain_held : Fun K "held" "Plain.held" s_Plain_held (A.getD 65 0) fd_Plain_held := funK_of D_Plain_held
  have b_Plain_held := F_Plain_held.binds (ps := ["self"]) fun _ _ _ _ _ _ us hl => match us, hl with | [_], _ => rfl
  obtain ⟨fd_Store_init, D_Store_init⟩ := c.def_ 28 (d := ⟨66, "__init__", "Store.__init__", defArgs s_Store_init, defBody s_Store_init, defScope s_Store_init, []⟩) rfl
  have k_Store_init : PySem.W.keepIn K (.ref (A.getD 66 0)) = true := D_Store_init.kp
  have F_Store_init : Fun K "__init__" "Store.__init__" s_Store_init (A.getD 66 0) fd_Store_init := funK_of D_Store_init
  have b_Store_init := F_Store_init.binds (ps := ["self", "chip", "terms", "rule"]) fun _ _ _ _ _ _ us hl => match us, hl with | [_, _, _, _], _ => rfl
  obtain ⟨fd_Store_reserve, D_Store_reserve⟩ := c.def_ 29 (d := ⟨67, "reserve", "Store.reserve", defArgs s_Store_reserve, defBody s_Store_reserve, defScope s_Store_reserve, []⟩) rfl
  have k_Store_reserve : PySem.W.keepIn K (.ref (A.getD 67 0)) = true := D_Store_reserve.kp
  have F_Store_reserve : Fun K "reserve" "Store.reserve" s_Store_reserve (A.getD 67 0) fd_Store_reserve := funK_of D_Store_reserve
  have b_Store_reserve := F_Store_reserve.binds (ps := ["self"]) fun _ _ _ _ _ _ us hl => match us, hl with | [_], _ => rfl
  obtain ⟨fd_Store_space, D_Store_space⟩ := c.def_ 30 (d := ⟨68, "space", "Store.space", defArgs s_Store_space, defBody s_Store_space, defScope s_Store_space, []⟩) rfl
  have k_Store_space : PySem.W.keepIn K (.ref (A.getD 68 0)) = true := D_Store_space.kp
  have F_Store_space : Fun K "space" "Store.space" s_Store_space (A.getD 68 0) fd_Store_space := funK_of D_Store_space
  have b_Store_space := F_Store_space.binds (ps := ["self"]) fun _ _ _ _ _ _ us hl => match us, hl with | [_], _ => rfl
  obtain ⟨fd_Store_tally, D_Store_tally⟩ := c.def_ 31 (d := ⟨69, "tally", "Store.tally", defArgs s_Store_tally, defBody s_Store_tally, defScope s_Store_tally, []⟩) rfl
  have k_Store_tally : PySem.W.keepIn K (.ref (A.getD 69 0)) = true := D_Store_tally.kp
  have F_Store_tally : Fun K "tally" "Store.tally" s_Store_tally (A.getD 69 0) fd_Store_tally := funK_of D_Store_tally
  have b_Store_tally := F_Store_tally.binds (ps := ["self", "block"]) fun _ _ _ _ _ _ us hl => match us, hl with | [_, _], _ => rfl
  obtain ⟨fd_Store_full_ones, D_Store_full_ones⟩ := c.def_ 32 (d := ⟨70, "full_ones", "Store.full_ones", defArgs s_Store_full_ones, defBody s_Store_full_ones, defScope s_Store_full_ones, []⟩) rfl
  have k_Store_full_ones : PySem.W.keepIn K (.ref (A.getD 70 0)) = true := D_Store_full_ones.kp
  have F_Store_full_ones : Fun K "full_ones" "Store.full_ones" s_Store_full_ones (A.getD 70 0) fd_Store_full_ones := funK_of D_Store_full_ones
  have b_Store_full_ones := F_Store_full_ones.binds (ps := ["self"]) fun _ _ _ _ _ _ us hl => match us, hl with | [_], _ => rfl
  obtain ⟨fd_Store_options, D_Store_options⟩ := c.def_ 33 (d := ⟨71, "options", "Store.options", defArgs s_Store_options, defBody s_Store_options, defScope s_Store_options, []⟩) rfl
  have k_Store_options : PySem.W.keepIn K (.ref (A.getD 71 0)) = true := D_Store_options.kp
  have F_Store_options : Fun K "options" "Store.options" s_Store_options (A.getD 71 0) fd_Store_options := funK_of D_Store_options
  have b_Store_options := F_Store_options.binds (ps := ["self"]) fun _ _ _ _ _ _ us hl => match us, hl with | [_], _ => rfl
  obtain ⟨fd_Store_otherwise, D_Store_otherwise⟩ := c.def_ 34 (d := ⟨72, "otherwise", "Store.otherwise", defArgs s_Store_otherwise, defBody s_Store_otherwise, defScope s_Store_otherwise, []⟩) rfl
  have k_Store_otherwise : PySem.W.keepIn K (.ref (A.getD 72 0)) = true := D_Store_otherwise.kp
  have F_Store_otherwise : Fun K "otherwise" "Store.otherwise" s_Store_otherwise (A.getD 72 0) fd_Store_otherwise := funK_of D_Store_otherwise
  have b_Store_otherwise := F_Store_otherwise.binds (ps := ["self"]) fun _ _ _ _ _ _ us hl => match us, hl with | [_], _ => rfl
  obtain ⟨fd_Store_choice, D_Store_choice⟩ := c.def_ 35 (d := ⟨73, "choice", "Store.choice", defArgs s_Store_choice, defBody s_Store_choice, defScope s_Store_choice, []⟩) rfl
  have k_Store_choice : PySem.W.keepIn K (.ref (A.getD 73 0)) = true := D_Store_choice.kp
  have F_Store_choice : Fun K "choice" "Store.choice" s_Store_choice (A.getD 73 0) fd_Store_choice := funK_of D_Store_choice
  have b_Store_choice := F_Store_choice.binds (ps := ["self"]) fun _ _ _ _ _ _ us hl => match us, hl with | [_], _ => rfl
  obtain ⟨fd_Store_value_for, D_Store_value_for⟩ := c.def_ 36 (d := ⟨74, "value_for", "Store.value_for", defArgs s_Store_value_for, defBody s_Store_value_for, defScope s_Store_value_for, []⟩) rfl
  have k_Store_value_for : PySem.W.keepIn K (.ref (A.getD 74 0)) = true := D_Store_value_for.kp
  have F_Store_value_for : Fun K "value_for" "Store.value_for" s_Store_value_for (A.getD 74 0) fd_Store_value_for := funK_of D_Store_value_for
  have b_Store_value_for := F_Store_value_for.binds (ps := ["self", "page", "name"]) fun _ _ _ _ _ _ us hl => match us, hl with | [_, _, _], _ => rfl
  obtain ⟨fd_Store_moved, D_Store_moved⟩ := c.def_ 37 (d := ⟨75, "moved", "Store.moved", defArgs s_Store_moved, defBody s_Store_moved, defScope s_Store_moved, []⟩) rfl
  have k_Store_moved : PySem.W.keepIn K (.ref (A.getD 75 0)) = true := D_Store_moved.kp
  have F_Store_moved : Fun K "moved" "Store.moved" s_Store_moved (A.getD 75 0) fd_Store_moved := funK_of D_Store_moved
  have b_Store_moved := F_Store_moved.binds (ps := ["self", "block"]) fun _ _ _ _ _ _ us hl => match us, hl with | [_, _], _ => rfl
  obtain ⟨fd_Store_wiped, D_Store_wiped⟩ := c.def_ 38 (d := ⟨76, "wiped", "Store.wiped", defArgs s_Store_wiped, defBody s_Store_wiped, defScope s_Store_wiped, []⟩) rfl
  have k_Store_wiped : PySem.W.keepIn K (.ref (A.getD 76 0)) = true := D_Store_wiped.kp
  have F_Store_wiped : Fun K "wiped" "Store.wiped" s_Store_wiped (A.getD 76 0) fd_Store_wiped := funK_of D_Store_wiped
  have b_Store_wiped := F_Store_wiped.binds (ps := ["self", "block"]) fun _ _ _ _ _ _ us hl => match us, hl with | [_, _], _ => rfl
  obtain ⟨fd_Store_make_room, D_Store_make_room⟩ := c.def_ 39 (d := ⟨77, "make_room", "Store.make_room", defArgs s_Store_make_room, defBody s_Store_make_room, defScope s_Store_make_room, []⟩) rfl
  have k_Store_make_room : PySem.W.keepIn K (.ref (A.getD 77 0)) = true := D_Store_make_room.kp
  have F_Store_make_room : Fun K "make_room" "Store.make_room" s_Store_make_room (A.getD 77 0) fd_Store_make_room := funK_of D_Store_make_room
  have b_Store_make_room := F_Store_make_room.binds (ps := ["self"]) fun _ _ _ _ _ _ us hl => match us, hl with | [_], _ => rfl
  obtain ⟨fd_Store_make_ready, D_Store_make_ready⟩ := c.def_ 40 (d := ⟨78, "make_ready", "Store.make_ready", defArgs s_Store_make_ready, defBody s_Store_make_ready, defScope s_Store_make_ready, []⟩) rfl
  have k_Store_make_ready : PySem.W.keepIn K (.ref (A.getD 78 0)) = true := D_Store_make_ready.kp
  have F_Store_make_ready : Fun K "make_ready" "Store.make_ready" s_Store_make_ready (A.getD 78 0) fd_Store_make_ready := funK_of D_Store_make_ready
  have b_Store_make_ready := F_Store_make_ready.binds (ps := ["self"]) fun _ _ _ _ _ _ us hl => match us, hl with | [_], _ => rfl
  obtain ⟨fd_blocks_taken, D_blocks_taken⟩ := c.def_ 41 (d := ⟨79, "blocks_taken", "blocks_taken", defArgs s_blocks_taken, defBody s_blocks_taken, defScope s_blocks_taken, []⟩) rfl
  have k_blocks_taken : PySem.W.keepIn K (.ref (A.getD 79 0)) = true := D_blocks_taken.kp
  have F_blocks_taken : Fun K "blocks_taken" "blocks_taken" s_blocks_taken (A.getD 79 0) fd_blocks_taken := funK_of D_blocks_taken
  have b_blocks_taken := F_blocks_taken.binds (ps := ["moves", "pages"]) fun _ _ _ _ _ _ us hl => match us, hl with | [_, _], _ => rfl
  obtain ⟨fd_Even_clearings_of, D_Even_clearings_of⟩ := c.def_ 42 (d := ⟨80, "clearings_of", "Even.clearings_of", defArgs s_Even_clearings_of, defBody s_Even_clearings_of, defScope s_Even_clearings_of, []⟩) rfl
  have k_Even_clearings_of : PySem.W.keepIn K (.ref (A.getD 80 0)) = true := D_Even_clearings_of.kp
  have F_Even_clearings_of : Fun K "clearings_of" "Even.clearings_of" s_Even_clearings_of (A.getD 80 0) fd_Even_clearings_of := funK_of D_Even_clearings_of
  have b_Even_clearings_of := F_Even_clearings_of.binds (ps := ["self"]) fun _ _ _ _ _ _ us hl => match us, hl with | [_], _ => rfl
  obtain ⟨fd_Even_least, D_Even_least⟩ := c.def_ 43 (d := ⟨81, "least", "Even.least", defArgs s_Even_least, defBody s_Even_least, defScope s_Even_least, []⟩) rfl
  have k_Even_least : PySem.W.keepIn K (.ref (A.getD 81 0)) = true := D_Even_least.kp
  have F_Even_least : Fun K "least" "Even.least" s_Even_least (A.getD 81 0) fd_Even_least := funK_of D_Even_least
  have b_Even_least := F_Even_least.binds (ps := ["self"]) fun _ _ _ _ _ _ us hl => match us, hl with | [_], _ => rfl
  obtain ⟨fd_Even_gap, D_Even_gap⟩ := c.def_ 44 (d := ⟨82, "gap", "Even.gap", defArgs s_Even_gap, defBody s_Even_gap, defScope s_Even_gap, []⟩) rfl
  have k_Even_gap : PySem.W.keepIn K (.ref (A.getD 82 0)) = true := D_Even_gap.kp
  have F_Even_gap : Fun K "gap" "Even.gap" s_Even_gap (A.getD 82 0) fd_Even_gap := funK_of D_Even_gap
  have b_Even_gap := F_Even_gap.binds (ps := ["self"]) fun _ _ _ _ _ _ us hl => match us, hl with | [_], _ => rfl
  obtain ⟨fd_Even_spared, D_Even_spared⟩ := c.def_ 45 (d := ⟨83, "spared", "Even.spared", defArgs s_Even_spared, defBody s_Even_spared, defScope s_Even_spared, []⟩) rfl
  have k_Even_spared : PySem.W.keepIn K (.ref (A.getD 83 0)) = true := D_Even_spared.kp
  have F_Even_spared : Fun K "spared" "Even.spared" s_Even_spared (A.getD 83 0) fd_Even_spared := funK_of D_Even_spared
  have b_Even_spared := F_Even_spared.binds (ps := ["self"]) fun _ _ _ _ _ _ us hl => match us, hl with | [_], _ => rfl
  obtain ⟨fd_Even_options, D_Even_options⟩ := c.def_ 46 (d := ⟨84, "options", "Even.options", defArgs s_Even_options, defBody s_Even_options, defScope s_Even_options, []⟩) rfl
  have k_Even_options : PySem.W.keepIn K (.ref (A.getD 84 0)) = true := D_Even_options.kp
  have F_Even_options : Fun K "options" "Even.options" s_Even_options (A.getD 84 0) fd_Even_options := funK_of D_Even_options
  have b_Even_options := F_Even_options.binds (ps := ["self"]) fun _ _ _ _ _ _ us hl => match us, hl with | [_], _ => rfl
  obtain ⟨fd_Even_otherwise, D_Even_otherwise⟩ := c.def_ 47 (d := ⟨85, "otherwise", "Even.otherwise", defArgs s_Even_otherwise, defBody s_Even_otherwise, defScope s_Even_otherwise, []⟩) rfl
  have k_Even_otherwise : PySem.W.keepIn K (.ref (A.getD 85 0)) = true := D_Even_otherwise.kp
  have F_Even_otherwise : Fun K "otherwise" "Even.otherwise" s_Even_otherwise (A.getD 85 0) fd_Even_otherwise := funK_of D_Even_otherwise
  have b_Even_otherwise := F_Even_otherwise.binds (ps := ["self"]) fun _ _ _ _ _ _ us hl => match us, hl with | [_], _ => rfl
  obtain ⟨fd_Even_changes, D_Even_changes⟩ := c.def_ 48 (d := ⟨86, "changes", "Even.changes", defArgs s_Even_changes, defBody s_Even_changes, defScope s_Even_changes, []⟩) rfl
  have k_Even_changes : PySem.W.keepIn K (.ref (A.getD 86 0)) = true := D_Even_changes.kp
  have F_Even_changes : Fun K "changes" "Even.changes" s_Even_changes (A.getD 86 0) fd_Even_changes := funK_of D_Even_changes
  have b_Even_changes := F_Even_changes.binds (ps := ["self"]) fun _ _ _ _ _ _ us hl => match us, hl with | [_], _ => rfl
  obtain ⟨fd_endurance, D_endurance⟩ := c.def_ 49 (d := ⟨87, "endurance", "endurance", defArgs s_endurance, defBody s_endurance, defScope s_endurance, []⟩) rfl
  have k_endurance : PySem.W.keepIn K (.ref (A.getD 87 0)) = true := D_endurance.kp
  have F_endurance : Fun K "endurance" "endurance" s_endurance (A.getD 87 0) fd_endurance := funK_of D_endurance
  have b_endurance := F_endurance.binds (ps := ["blocks", "ills"]) fun _ _ _ _ _ _ us hl => match us, hl with | [_, _], _ => rfl
  obtain ⟨fd_Chip_init, D_Chip_init⟩ := c.def_ 50 (d := ⟨88, "__init__", "Chip.__init__", defArgs s_Chip_init, defBody s_Chip_init, defScope s_Chip_init, [.int (1000000), .non]⟩) rfl
  have k_Chip_init : PySem.W.keepIn K (.ref (A.getD 88 0)) = true := D_Chip_init.kp
  have F_Chip_init : FunD K "__init__" "Chip.__init__" (defArgs s_Chip_init) (defBody s_Chip_init) (defScope s_Chip_init) dfl_Chip_init [] (A.getD 88 0) fd_Chip_init := D_Chip_init
  obtain ⟨ds0_Chip_init, dv0_Chip_init, bd0_Chip_init⟩ := F_Chip_init.binds1 (ps := ["self", "blocks", "pages", "most", "ills"]) 5 2 (fun z => by cases z) (by rfl) fun T kV doc pm an cdv ct us its h1 h2 => match us, its, h1, h2 with | [_, _, _, _, _], [_, _], _, _ => ⟨_, rfl, rfl⟩
  obtain ⟨ds2_Chip_init, dv2_Chip_init, bd2_Chip_init⟩ := F_Chip_init.binds1 (ps := ["self", "blocks", "pages", "most", "ills"]) 3 0 (fun z => by cases z) (by rfl) fun T kV doc pm an cdv ct us its h1 h2 => match us, its, h1, h2 with | [_, _, _], [_, _], _, _ => ⟨_, rfl, rfl⟩
  obtain ⟨ds1_Chip_init, dv1_Chip_init, bd1_Chip_init⟩ := F_Chip_init.binds1 (ps := ["self", "blocks", "pages", "most", "ills"]) 4 1 (fun z => by cases z) (by rfl) fun T kV doc pm an cdv ct us its h1 h2 => match us, its, h1, h2 with | [_, _, _, _], [_, _], _, _ => ⟨_, rfl, rfl⟩
  obtain ⟨fd_Chip_need_page, D_Chip_need_page⟩ := c.def_ 51 (d := ⟨89, "need_page", "Chip.need_page", defArgs s_Chip_need_page, defBody s_Chip_need_page, defScope s_Chip_need_page, []⟩) rfl
  have k_Chip_need_page : PySem.W.keepIn K (.ref (A.getD 89 0)) = true := D_Chip_need_page.kp
  have F_Chip_need_page : Fun K "need_page" "Chip.need_page" s_Chip_need_page (A.getD 89 0) fd_Chip_need_page := funK_of D_Chip_need_page
  have b_Chip_need_page := F_Chip_need_page.binds (ps := ["self", "page"]) fun _ _ _ _ _ _ us hl => match us, hl with | [_, _], _ => rfl
  obtain ⟨fd_Chip_need_block, D_Chip_need_block⟩ := c.def_ 52 (d := ⟨90, "need_block", "Chip.need_block", defArgs s_Chip_need_block, defBody s_Chip_need_block, defScope s_Chip_need_block, []⟩) rfl
  have k_Chip_need_block : PySem.W.keepIn K (.ref (A.getD 90 0)) = true := D_Chip_need_block.kp
  have F_Chip_need_block : Fun K "need_block" "Chip.need_block" s_Chip_need_block (A.getD 90 0) fd_Chip_need_block := funK_of D_Chip_need_block
  have b_Chip_need_block := F_Chip_need_block.binds (ps := ["self", "block"]) fun _ _ _ _ _ _ us hl => match us, hl with | [_, _], _ => rfl
  obtain ⟨fd_Chip_need_power, D_Chip_need_power⟩ := c.def_ 53 (d := ⟨91, "need_power", "Chip.need_power", defArgs s_Chip_need_power, defBody s_Chip_need_power, defScope s_Chip_need_power, []⟩) rfl
  have k_Chip_need_power : PySem.W.keepIn K (.ref (A.getD 91 0)) = true := D_Chip_need_power.kp
  have F_Chip_need_power : Fun K "need_power" "Chip.need_power" s_Chip_need_power (A.getD 91 0) fd_Chip_need_power := funK_of D_Chip_need_power
  have b_Chip_need_power := F_Chip_need_power.binds (ps := ["self"]) fun _ _ _ _ _ _ us hl => match us, hl with | [_], _ => rfl
  obtain ⟨fd_Chip_need_good, D_Chip_need_good⟩ := c.def_ 54 (d := ⟨92, "need_good", "Chip.need_good", defArgs s_Chip_need_good, defBody s_Chip_need_good, defScope s_Chip_need_good, []⟩) rfl
  have k_Chip_need_good : PySem.W.keepIn K (.ref (A.getD 92 0)) = true := D_Chip_need_good.kp
  have F_Chip_need_good : Fun K "need_good" "Chip.need_good" s_Chip_need_good (A.getD 92 0) fd_Chip_need_good := funK_of D_Chip_need_good
  have b_Chip_need_good := F_Chip_need_good.binds (ps := ["self", "block"]) fun _ _ _ _ _ _ us hl => match us, hl with | [_, _], _ => rfl
  obtain ⟨fd_Chip_goes_well, D_Chip_goes_well⟩ := c.def_ 55 (d := ⟨93, "goes_well", "Chip.goes_well", defArgs s_Chip_goes_well, defBody s_Chip_goes_well, defScope s_Chip_goes_well, []⟩) rfl
  have k_Chip_goes_well : PySem.W.keepIn K (.ref (A.getD 93 0)) = true := D_Chip_goes_well.kp
  have F_Chip_goes_well : Fun K "goes_well" "Chip.goes_well" s_Chip_goes_well (A.getD 93 0) fd_Chip_goes_well := funK_of D_Chip_goes_well
  have b_Chip_goes_well := F_Chip_goes_well.binds (ps := ["self", "block", "worn"]) fun _ _ _ _ _ _ us hl => match us, hl with | [_, _, _], _ => rfl
  obtain ⟨fd_Chip_put, D_Chip_put⟩ := c.def_ 56 (d := ⟨94, "put", "Chip.put", defArgs s_Chip_put, defBody s_Chip_put, defScope s_Chip_put, []⟩) rfl
  have k_Chip_put : PySem.W.keepIn K (.ref (A.getD 94 0)) = true := D_Chip_put.kp
  have F_Chip_put : Fun K "put" "Chip.put" s_Chip_put (A.getD 94 0) fd_Chip_put := funK_of D_Chip_put
  have b_Chip_put := F_Chip_put.binds (ps := ["self", "page", "stuff"]) fun _ _ _ _ _ _ us hl => match us, hl with | [_, _, _], _ => rfl
  obtain ⟨fd_Chip_wipe, D_Chip_wipe⟩ := c.def_ 57 (d := ⟨95, "wipe", "Chip.wipe", defArgs s_Chip_wipe, defBody s_Chip_wipe, defScope s_Chip_wipe, []⟩) rfl
  have k_Chip_wipe : PySem.W.keepIn K (.ref (A.getD 95 0)) = true := D_Chip_wipe.kp
  have F_Chip_wipe : Fun K "wipe" "Chip.wipe" s_Chip_wipe (A.getD 95 0) fd_Chip_wipe := funK_of D_Chip_wipe
  have b_Chip_wipe := F_Chip_wipe.binds (ps := ["self", "block"]) fun _ _ _ _ _ _ us hl => match us, hl with | [_, _], _ => rfl
  obtain ⟨fd_Chip_read, D_Chip_read⟩ := c.def_ 58 (d := ⟨96, "read", "Chip.read", defArgs s_Chip_read, defBody s_Chip_read, defScope s_Chip_read, []⟩) rfl
  have k_Chip_read : PySem.W.keepIn K (.ref (A.getD 96 0)) = true := D_Chip_read.kp
  have F_Chip_read : Fun K "read" "Chip.read" s_Chip_read (A.getD 96 0) fd_Chip_read := funK_of D_Chip_read
  have b_Chip_read := F_Chip_read.binds (ps := ["self", "page"]) fun _ _ _ _ _ _ us hl => match us, hl with | [_, _], _ => rfl
  obtain ⟨fd_Chip_is_dark, D_Chip_is_dark⟩ := c.def_ 59 (d := ⟨97, "is_dark", "Chip.is_dark", defArgs s_Chip_is_dark, defBody s_Chip_is_dark, defScope s_Chip_is_dark, []⟩) rfl
  have k_Chip_is_dark : PySem.W.keepIn K (.ref (A.getD 97 0)) = true := D_Chip_is_dark.kp
  have F_Chip_is_dark : Fun K "is_dark" "Chip.is_dark" s_Chip_is_dark (A.getD 97 0) fd_Chip_is_dark := funK_of D_Chip_is_dark
  have b_Chip_is_dark := F_Chip_is_dark.binds (ps := ["self"]) fun _ _ _ _ _ _ us hl => match us, hl with | [_], _ => rfl
  obtain ⟨fd_Chip_cleared, D_Chip_cleared⟩ := c.def_ 60 (d := ⟨98, "cleared", "Chip.cleared", defArgs s_Chip_cleared, defBody s_Chip_cleared, defScope s_Chip_cleared, []⟩) rfl
  have k_Chip_cleared : PySem.W.keepIn K (.ref (A.getD 98 0)) = true := D_Chip_cleared.kp
  have F_Chip_cleared : Fun K "cleared" "Chip.cleared" s_Chip_cleared (A.getD 98 0) fd_Chip_cleared := funK_of D_Chip_cleared
  have b_Chip_cleared := F_Chip_cleared.binds (ps := ["self", "block"]) fun _ _ _ _ _ _ us hl => match us, hl with | [_, _], _ => rfl
  obtain ⟨fd_Chip_failed, D_Chip_failed⟩ := c.def_ 61 (d := ⟨99, "failed", "Chip.failed", defArgs s_Chip_failed, defBody s_Chip_failed, defScope s_Chip_failed, []⟩) rfl
  have k_Chip_failed : PySem.W.keepIn K (.ref (A.getD 99 0)) = true := D_Chip_failed.kp
  have F_Chip_failed : Fun K "failed" "Chip.failed" s_Chip_failed (A.getD 99 0) fd_Chip_failed := funK_of D_Chip_failed
  have b_Chip_failed := F_Chip_failed.binds (ps := ["self", "block"]) fun _ _ _ _ _ _ us hl => match us, hl with | [_, _], _ => rfl
  obtain ⟨fd_Chip_deeds, D_Chip_deeds⟩ := c.def_ 62 (d := ⟨100, "deeds", "Chip.deeds", defArgs s_Chip_deeds, defBody s_Chip_deeds, defScope s_Chip_deeds, []⟩) rfl
  have k_Chip_deeds : PySem.W.keepIn K (.ref (A.getD 100 0)) = true := D_Chip_deeds.kp
  have F_Chip_deeds : Fun K "deeds" "Chip.deeds" s_Chip_deeds (A.getD 100 0) fd_Chip_deeds := funK_of D_Chip_deeds
  have b_Chip_deeds := F_Chip_deeds.binds (ps := ["self"]) fun _ _ _ _ _ _ us hl => match us, hl with | [_], _ => rfl
  obtain ⟨fd_Rule_goes_ahead, D_Rule_goes_ahead⟩ := c.def_ 63 (d := ⟨101, "goes_ahead", "Rule.goes_ahead", defArgs s_Rule_goes_ahead, defBody s_Rule_goes_ahead, defScope s_Rule_goes_ahead, []⟩) rfl
  have k_Rule_goes_ahead : PySem.W.keepIn K (.ref (A.getD 101 0)) = true := D_Rule_goes_ahead.kp
  have F_Rule_goes_ahead : Fun K "goes_ahead" "Rule.goes_ahead" s_Rule_goes_ahead (A.getD 101 0) fd_Rule_goes_ahead := funK_of D_Rule_goes_ahead
  have b_Rule_goes_ahead := F_Rule_goes_ahead.binds (ps := ["self", "one", "other", "pages", "now"]) fun _ _ _ _ _ _ us hl => match us, hl with | [_, _, _, _, _], _ => rfl
  obtain ⟨fd_Rule_choose, D_Rule_choose⟩ := c.def_ 64 (d := ⟨102, "choose", "Rule.choose", defArgs s_Rule_choose, defBody s_Rule_choose, defScope s_Rule_choose, []⟩) rfl
  have k_Rule_choose : PySem.W.keepIn K (.ref (A.getD 102 0)) = true := D_Rule_choose.kp
  have F_Rule_choose : Fun K "choose" "Rule.choose" s_Rule_choose (A.getD 102 0) fd_Rule_choose := funK_of D_Rule_choose
  have b_Rule_choose := F_Rule_choose.binds (ps := ["self", "tallies", "pages", "now"]) fun _ _ _ _ _ _ us hl => match us, hl with | [_, _, _, _], _ => rfl
  obtain ⟨fd_Terms_init, D_Terms_init⟩ := c.def_ 65 (d := ⟨103, "__init__", "Terms.__init__", defArgs s_Terms_init, defBody s_Terms_init, defScope s_Terms_init, [.int (0), .int (1000000)]⟩) rfl
  have k_Terms_init : PySem.W.keepIn K (.ref (A.getD 103 0)) = true := D_Terms_init.kp
  have F_Terms_init : FunD K "__init__" "Terms.__init__" (defArgs s_Terms_init) (defBody s_Terms_init) (defScope s_Terms_init) dfl_Terms_init [] (A.getD 103 0) fd_Terms_init := D_Terms_init
  obtain ⟨ds2_Terms_init, dv2_Terms_init, bd2_Terms_init⟩ := F_Terms_init.binds1 (ps := ["self", "blocks", "pages", "sheets", "share", "ill", "spread"]) 5 0 (fun z => by cases z) (by rfl) fun T kV doc pm an cdv ct us its h1 h2 => match us, its, h1, h2 with | [_, _, _, _, _], [_, _], _, _ => ⟨_, rfl, rfl⟩
  obtain ⟨fd_Terms_closed, D_Terms_closed⟩ := c.def_ 66 (d := ⟨104, "closed", "Terms.closed", defArgs s_Terms_closed, defBody s_Terms_closed, defScope s_Terms_closed, []⟩) rfl
  have k_Terms_closed : PySem.W.keepIn K (.ref (A.getD 104 0)) = true := D_Terms_closed.kp
  have F_Terms_closed : Fun K "closed" "Terms.closed" s_Terms_closed (A.getD 104 0) fd_Terms_closed := funK_of D_Terms_closed
  have b_Terms_closed := F_Terms_closed.binds (ps := ["self"]) fun _ _ _ _ _ _ us hl => match us, hl with | [_], _ => rfl
  obtain ⟨fd__law_cell_at, D__law_cell_at⟩ := c.def_ 67 (d := ⟨105, "_law_cell_at", "_law_cell_at", defArgs s__law_cell_at, defBody s__law_cell_at, defScope s__law_cell_at, []⟩) rfl
  have k__law_cell_at : PySem.W.keepIn K (.ref (A.getD 105 0)) = true := D__law_cell_at.kp
  have F__law_cell_at : Fun K "_law_cell_at" "_law_cell_at" s__law_cell_at (A.getD 105 0) fd__law_cell_at := funK_of D__law_cell_at
  have b__law_cell_at := F__law_cell_at.binds (ps := ["_law_script", "_law_k"]) fun _ _ _ _ _ _ us hl => match us, hl with | [_, _], _ => rfl
  obtain ⟨fd__law_whole, D__law_whole⟩ := c.def_ 68 (d := ⟨106, "_law_whole", "_law_whole", defArgs s__law_whole, defBody s__law_whole, defScope s__law_whole, []⟩) rfl
  have k__law_whole : PySem.W.keepIn K (.ref (A.getD 106 0)) = true := D__law_whole.kp
  have F__law_whole : Fun K "_law_whole" "_law_whole" s__law_whole (A.getD 106 0) fd__law_whole := funK_of D__law_whole
  have b__law_whole := F__law_whole.binds (ps := ["_law_found"]) fun _ _ _ _ _ _ us hl => match us, hl with | [_], _ => rfl
  obtain ⟨fd__law_mix, D__law_mix⟩ := c.def_ 69 (d := ⟨107, "_law_mix", "_law_mix", defArgs s__law_mix, defBody s__law_mix, defScope s__law_mix, []⟩) rfl
  have k__law_mix : PySem.W.keepIn K (.ref (A.getD 107 0)) = true := D__law_mix.kp
  have F__law_mix : Fun K "_law_mix" "_law_mix" s__law_mix (A.getD 107 0) fd__law_mix := funK_of D__law_mix
  have b__law_mix := F__law_mix.binds (ps := ["_law_cell", "_law_k"]) fun _ _ _ _ _ _ us hl => match us, hl with | [_, _], _ => rfl
  obtain ⟨fd__law_ills, D__law_ills⟩ := c.def_ 70 (d := ⟨108, "_law_ills", "_law_ills", defArgs s__law_ills, defBody s__law_ills, defScope s__law_ills, []⟩) rfl
  have k__law_ills : PySem.W.keepIn K (.ref (A.getD 108 0)) = true := D__law_ills.kp
  have F__law_ills : Fun K "_law_ills" "_law_ills" s__law_ills (A.getD 108 0) fd__law_ills := funK_of D__law_ills
  have b__law_ills := F__law_ills.binds (ps := ["_law_script", "_law_blocks"]) fun _ _ _ _ _ _ us hl => match us, hl with | [_, _], _ => rfl
  obtain ⟨fd__law_wiped, D__law_wiped⟩ := c.def_ 71 (d := ⟨109, "_law_wiped", "_law_wiped", defArgs s__law_wiped, defBody s__law_wiped, defScope s__law_wiped, []⟩) rfl
  have k__law_wiped : PySem.W.keepIn K (.ref (A.getD 109 0)) = true := D__law_wiped.kp
  have F__law_wiped : Fun K "_law_wiped" "_law_wiped" s__law_wiped (A.getD 109 0) fd__law_wiped := funK_of D__law_wiped
  have b__law_wiped := F__law_wiped.binds (ps := ["_law_chip", "_law_block"]) fun _ _ _ _ _ _ us hl => match us, hl with | [_, _], _ => rfl
  obtain ⟨fd__law_due, D__law_due⟩ := c.def_ 72 (d := ⟨110, "_law_due", "_law_due", defArgs s__law_due, defBody s__law_due, defScope s__law_due, []⟩) rfl
  have k__law_due : PySem.W.keepIn K (.ref (A.getD 110 0)) = true := D__law_due.kp
  have F__law_due : Fun K "_law_due" "_law_due" s__law_due (A.getD 110 0) fd__law_due := funK_of D__law_due
  have b__law_due := F__law_due.binds (ps := ["_law_counts", "_law_broken"]) fun _ _ _ _ _ _ us hl => match us, hl with | [_, _], _ => rfl
  obtain ⟨fd__law_right, D__law_right⟩ := c.def_ 73 (d := ⟨111, "_law_right", "_law_right", defArgs s__law_right, defBody s__law_right, defScope s__law_right, []⟩) rfl
  have k__law_right : PySem.W.keepIn K (.ref (A.getD 111 0)) = true := D__law_right.kp
  have F__law_right : Fun K "_law_right" "_law_right" s__law_right (A.getD 111 0) fd__law_right := funK_of D__law_right
  have b__law_right := F__law_right.binds (ps := ["_law_store", "_law_counts", "_law_broken"]) fun _ _ _ _ _ _ us hl => match us, hl with | [_, _, _], _ => rfl
  obtain ⟨fd_law, D_law⟩ := c.def_ 74 (d := ⟨112, "law", "law", defArgs s_law, defBody s_law, defScope s_law, []⟩) rfl
  have k_law : PySem.W.keepIn K (.ref (A.getD 112 0)) = true := D_law.kp
  have F_law : Fun K "law" "law" s_law (A.getD 112 0) fd_law := funK_of D_law
  have b_law := F_law.binds (ps := ["_law_script"]) fun _ _ _ _ _ _ us hl => match us, hl with | [_], _ => rfl
  have xo_BlockFailed : OexC K (A.getD 13 0) := ⟨oexB_ok xl_BlockFailed, xs_BlockFailed, xr_BlockFailed, xy_BlockFailed, xk_BlockFailed⟩
  have xo_NotClear : OexC K (A.getD 14 0) := ⟨oexB_ok xl_NotClear, xs_NotClear, xr_NotClear, xy_NotClear, xk_NotClear⟩
  let T : Txt K mg := {
    a_BlockFailed_init := (A.getD 38 0)
    fd_BlockFailed_init := fd_BlockFailed_init
    F_BlockFailed_init := F_BlockFailed_init
    bd_BlockFailed_init := b_BlockFailed_init
    k_BlockFailed_init := k_BlockFailed_init
    a_NotClear_init := (A.getD 39 0)
    fd_NotClear_init := fd_NotClear_init
    F_NotClear_init := F_NotClear_init
    bd_NotClear_init := b_NotClear_init
    k_NotClear_init := k_NotClear_init
    a_mark_of := (A.getD 40 0)
    fd_mark_of := fd_mark_of
    F_mark_of := F_mark_of
    bd_mark_of := b_mark_of
    k_mark_of := k_mark_of
    g_mark_of := PySem.W.mg_of X G a_mark_of
    a_bits_of := (A.getD 41 0)
    fd_bits_of := fd_bits_of
    F_bits_of := F_bits_of
    bd_bits_of := b_bits_of
    k_bits_of := k_bits_of
    g_bits_of := PySem.W.mg_of X G a_bits_of
    a_Book_init := (A.getD 42 0)
    fd_Book_init := fd_Book_init
    F_Book_init := F_Book_init
    bd_Book_init := b_Book_init
    k_Book_init := k_Book_init
    a_Book_mark := (A.getD 43 0)
    fd_Book_mark := fd_Book_mark
    F_Book_mark := F_Book_mark
    bd_Book_mark := b_Book_mark
    k_Book_mark := k_Book_mark
    a_Book_note := (A.getD 44 0)
    fd_Book_note := fd_Book_note
    F_Book_note := F_Book_note
    bd_Book_note := b_Book_note
    k_Book_note := k_Book_note
    a_Book_forget := (A.getD 45 0)
    fd_Book_forget := fd_Book_forget
    F_Book_forget := F_Book_forget
    bd_Book_forget := b_Book_forget
    k_Book_forget := k_Book_forget
    a_Book_emptied := (A.getD 46 0)
    fd_Book_emptied := fd_Book_emptied
    F_Book_emptied := F_Book_emptied
    bd_Book_emptied := b_Book_emptied
    k_Book_emptied := k_Book_emptied
    a_Book_live_pages := (A.getD 47 0)
    fd_Book_live_pages := fd_Book_live_pages
    F_Book_live_pages := F_Book_live_pages
    bd_Book_live_pages := b_Book_live_pages
    k_Book_live_pages := k_Book_live_pages
    a_Book_held := (A.getD 48 0)
    fd_Book_held := fd_Book_held
    F_Book_held := F_Book_held
    bd_Book_held := b_Book_held
    k_Book_held := k_Book_held
    a_Book_tell := (A.getD 49 0)
    fd_Book_tell := fd_Book_tell
    F_Book_tell := F_Book_tell
    bd_Book_tell := b_Book_tell
    k_Book_tell := k_Book_tell
    a_is_whole := (A.getD 50 0)
    fd_is_whole := fd_is_whole
    F_is_whole := F_is_whole
    bd_is_whole := b_is_whole
    k_is_whole := k_is_whole
    g_is_whole := PySem.W.mg_of X G a_is_whole
    a_is_within := (A.getD 51 0)
    fd_is_within := fd_is_within
    F_is_within := F_is_within
    bd_is_within := b_is_within
    k_is_within := k_is_within
    g_is_within := PySem.W.mg_of X G a_is_within
    a_Plain_init := (A.getD 52 0)
    fd_Plain_init := fd_Plain_init
    F_Plain_init := F_Plain_init
    bd_Plain_init := b_Plain_init
    k_Plain_init := k_Plain_init
    a_Plain_good := (A.getD 53 0)
    fd_Plain_good := fd_Plain_good
    F_Plain_good := F_Plain_good
    bd_Plain_good := b_Plain_good
    k_Plain_good := k_Plain_good
    a_Plain_free := (A.getD 54 0)
    fd_Plain_free := fd_Plain_free
    F_Plain_free := F_Plain_free
    bd_Plain_free := b_Plain_free
    k_Plain_free := k_Plain_free
    a_Plain_part := (A.getD 55 0)
    fd_Plain_part := fd_Plain_part
    F_Plain_part := F_Plain_part
    bd_Plain_part := b_Plain_part
    k_Plain_part := k_Plain_part
    a_Plain_spot := (A.getD 56 0)
    fd_Plain_spot := fd_Plain_spot
    F_Plain_spot := F_Plain_spot
    bd_Plain_spot := b_Plain_spot
    k_Plain_spot := k_Plain_spot
    a_Plain_reserve := (A.getD 57 0)
    fd_Plain_reserve := fd_Plain_reserve
    F_Plain_reserve := F_Plain_reserve
    bd_Plain_reserve := b_Plain_reserve
    k_Plain_reserve := k_Plain_reserve
    a_Plain_ready := (A.getD 58 0)
    fd_Plain_ready := fd_Plain_ready
    F_Plain_ready := F_Plain_ready
    bd_Plain_ready := b_Plain_ready
    k_Plain_ready := k_Plain_ready
    a_Plain_make_ready := (A.getD 59 0)
    fd_Plain_make_ready := fd_Plain_make_ready
    F_Plain_make_ready := F_Plain_make_ready
    bd_Plain_make_ready := b_Plain_make_ready
    k_Plain_make_ready := k_Plain_make_ready
    a_Plain_set_down := (A.getD 60 0)
    fd_Plain_set_down := fd_Plain_set_down
    F_Plain_set_down := F_Plain_set_down
    bd_Plain_set_down := b_Plain_set_down
    k_Plain_set_down := k_Plain_set_down
    a_Plain_lay := (A.getD 61 0)
    fd_Plain_lay := fd_Plain_lay
    F_Plain_lay := F_Plain_lay
    bd_Plain_lay := b_Plain_lay
    k_Plain_lay := k_Plain_lay
    a_Plain_need_sheet := (A.getD 62 0)
    fd_Plain_need_sheet := fd_Plain_need_sheet
    F_Plain_need_sheet := F_Plain_need_sheet
    bd_Plain_need_sheet := b_Plain_need_sheet
    k_Plain_need_sheet := k_Plain_need_sheet
    a_Plain_write := (A.getD 63 0)
    fd_Plain_write := fd_Plain_write
    F_Plain_write := F_Plain_write
    bd_Plain_write := b_Plain_write
    k_Plain_write := k_Plain_write
    a_Plain_read := (A.getD 64 0)
    fd_Plain_read := fd_Plain_read
    F_Plain_read := F_Plain_read
    bd_Plain_read := b_Plain_read
    k_Plain_read := k_Plain_read
    a_Plain_held := (A.getD 65 0)
    fd_Plain_held := fd_Plain_held
    F_Plain_held := F_Plain_held
    bd_Plain_held := b_Plain_held
    k_Plain_held := k_Plain_held
    a_Store_init := (A.getD 66 0)
    fd_Store_init := fd_Store_init
    F_Store_init := F_Store_init
    bd_Store_init := b_Store_init
    k_Store_init := k_Store_init
    a_Store_reserve := (A.getD 67 0)
    fd_Store_reserve := fd_Store_reserve
    F_Store_reserve := F_Store_reserve
    bd_Store_reserve := b_Store_reserve
    k_Store_reserve := k_Store_reserve
    a_Store_space := (A.getD 68 0)
    fd_Store_space := fd_Store_space
    F_Store_space := F_Store_space
    bd_Store_space := b_Store_space
    k_Store_space := k_Store_space
    a_Store_tally := (A.getD 69 0)
    fd_Store_tally := fd_Store_tally
    F_Store_tally := F_Store_tally
    bd_Store_tally := b_Store_tally
    k_Store_tally := k_Store_tally
    a_Store_full_ones := (A.getD 70 0)
    fd_Store_full_ones := fd_Store_full_ones
    F_Store_full_ones := F_Store_full_ones
    bd_Store_full_ones := b_Store_full_ones
    k_Store_full_ones := k_Store_full_ones
    a_Store_options := (A.getD 71 0)
    fd_Store_options := fd_Store_options
    F_Store_options := F_Store_options
    bd_Store_options := b_Store_options
    k_Store_options := k_Store_options
    a_Store_otherwise := (A.getD 72 0)
    fd_Store_otherwise := fd_Store_otherwise
    F_Store_otherwise := F_Store_otherwise
    bd_Store_otherwise := b_Store_otherwise
    k_Store_otherwise := k_Store_otherwise
    a_Store_choice := (A.getD 73 0)
    fd_Store_choice := fd_Store_choice
    F_Store_choice := F_Store_choice
    bd_Store_choice := b_Store_choice
    k_Store_choice := k_Store_choice
    a_Store_value_for := (A.getD 74 0)
    fd_Store_value_for := fd_Store_value_for
    F_Store_value_for := F_Store_value_for
    bd_Store_value_for := b_Store_value_for
    k_Store_value_for := k_Store_value_for
    a_Store_moved := (A.getD 75 0)
    fd_Store_moved := fd_Store_moved
    F_Store_moved := F_Store_moved
    bd_Store_moved := b_Store_moved
    k_Store_moved := k_Store_moved
    a_Store_wiped := (A.getD 76 0)
    fd_Store_wiped := fd_Store_wiped
    F_Store_wiped := F_Store_wiped
    bd_Store_wiped := b_Store_wiped
    k_Store_wiped := k_Store_wiped
    a_Store_make_room := (A.getD 77 0)
    fd_Store_make_room := fd_Store_make_room
    F_Store_make_room := F_Store_make_room
    bd_Store_make_room := b_Store_make_room
    k_Store_make_room := k_Store_make_room
    a_Store_make_ready := (A.getD 78 0)
    fd_Store_make_ready := fd_Store_make_ready
    F_Store_make_ready := F_Store_make_ready
    bd_Store_make_ready := b_Store_make_ready
    k_Store_make_ready := k_Store_make_ready
    a_blocks_taken := (A.getD 79 0)
    fd_blocks_taken := fd_blocks_taken
    F_blocks_taken := F_blocks_taken
    bd_blocks_taken := b_blocks_taken
    k_blocks_taken := k_blocks_taken
    g_blocks_taken := PySem.W.mg_of X G a_blocks_taken
    a_Even_clearings_of := (A.getD 80 0)
    fd_Even_clearings_of := fd_Even_clearings_of
    F_Even_clearings_of := F_Even_clearings_of
    bd_Even_clearings_of := b_Even_clearings_of
    k_Even_clearings_of := k_Even_clearings_of
    a_Even_least := (A.getD 81 0)
    fd_Even_least := fd_Even_least
    F_Even_least := F_Even_least
    bd_Even_least := b_Even_least
    k_Even_least := k_Even_least
    a_Even_gap := (A.getD 82 0)
    fd_Even_gap := fd_Even_gap
    F_Even_gap := F_Even_gap
    bd_Even_gap := b_Even_gap
    k_Even_gap := k_Even_gap
    a_Even_spared := (A.getD 83 0)
    fd_Even_spared := fd_Even_spared
    F_Even_spared := F_Even_spared
    bd_Even_spared := b_Even_spared
    k_Even_spared := k_Even_spared
    a_Even_options := (A.getD 84 0)
    fd_Even_options := fd_Even_options
    F_Even_options := F_Even_options
    bd_Even_options := b_Even_options
    k_Even_options := k_Even_options
    a_Even_otherwise := (A.getD 85 0)
    fd_Even_otherwise := fd_Even_otherwise
    F_Even_otherwise := F_Even_otherwise
    bd_Even_otherwise := b_Even_otherwise
    k_Even_otherwise := k_Even_otherwise
    a_Even_changes := (A.getD 86 0)
    fd_Even_changes := fd_Even_changes
    F_Even_changes := F_Even_changes
    bd_Even_changes := b_Even_changes
    k_Even_changes := k_Even_changes
    a_endurance := (A.getD 87 0)
    fd_endurance := fd_endurance
    F_endurance := F_endurance
    bd_endurance := b_endurance
    k_endurance := k_endurance
    g_endurance := PySem.W.mg_of X G a_endurance
    a_Chip_init := (A.getD 88 0)
    fd_Chip_init := fd_Chip_init
    F_Chip_init := F_Chip_init
    k_Chip_init := k_Chip_init
    ds0_Chip_init := ds0_Chip_init
    dv0_Chip_init := dv0_Chip_init
    bd0_Chip_init := bd0_Chip_init
    ds2_Chip_init := ds2_Chip_init
    dv2_Chip_init := dv2_Chip_init
    bd2_Chip_init := bd2_Chip_init
    ds1_Chip_init := ds1_Chip_init
    dv1_Chip_init := dv1_Chip_init
    bd1_Chip_init := bd1_Chip_init
    a_Chip_need_page := (A.getD 89 0)
    fd_Chip_need_page := fd_Chip_need_page
    F_Chip_need_page := F_Chip_need_page
    bd_Chip_need_page := b_Chip_need_page
    k_Chip_need_page := k_Chip_need_page
    a_Chip_need_block := (A.getD 90 0)
    fd_Chip_need_block := fd_Chip_need_block
    F_Chip_need_block := F_Chip_need_block
    bd_Chip_need_block := b_Chip_need_block
    k_Chip_need_block := k_Chip_need_block
    a_Chip_need_power := (A.getD 91 0)
    fd_Chip_need_power := fd_Chip_need_power
    F_Chip_need_power := F_Chip_need_power
    bd_Chip_need_power := b_Chip_need_power
    k_Chip_need_power := k_Chip_need_power
    a_Chip_need_good := (A.getD 92 0)
    fd_Chip_need_good := fd_Chip_need_good
    F_Chip_need_good := F_Chip_need_good
    bd_Chip_need_good := b_Chip_need_good
    k_Chip_need_good := k_Chip_need_good
    a_Chip_goes_well := (A.getD 93 0)
    fd_Chip_goes_well := fd_Chip_goes_well
    F_Chip_goes_well := F_Chip_goes_well
    bd_Chip_goes_well := b_Chip_goes_well
    k_Chip_goes_well := k_Chip_goes_well
    a_Chip_put := (A.getD 94 0)
    fd_Chip_put := fd_Chip_put
    F_Chip_put := F_Chip_put
    bd_Chip_put := b_Chip_put
    k_Chip_put := k_Chip_put
    a_Chip_wipe := (A.getD 95 0)
    fd_Chip_wipe := fd_Chip_wipe
    F_Chip_wipe := F_Chip_wipe
    bd_Chip_wipe := b_Chip_wipe
    k_Chip_wipe := k_Chip_wipe
    a_Chip_read := (A.getD 96 0)
    fd_Chip_read := fd_Chip_read
    F_Chip_read := F_Chip_read
    bd_Chip_read := b_Chip_read
    k_Chip_read := k_Chip_read
    a_Chip_is_dark := (A.getD 97 0)
    fd_Chip_is_dark := fd_Chip_is_dark
    F_Chip_is_dark := F_Chip_is_dark
    bd_Chip_is_dark := b_Chip_is_dark
    k_Chip_is_dark := k_Chip_is_dark
    a_Chip_cleared := (A.getD 98 0)
    fd_Chip_cleared := fd_Chip_cleared
    F_Chip_cleared := F_Chip_cleared
    bd_Chip_cleared := b_Chip_cleared
    k_Chip_cleared := k_Chip_cleared
    a_Chip_failed := (A.getD 99 0)
    fd_Chip_failed := fd_Chip_failed
    F_Chip_failed := F_Chip_failed
    bd_Chip_failed := b_Chip_failed
    k_Chip_failed := k_Chip_failed
    a_Chip_deeds := (A.getD 100 0)
    fd_Chip_deeds := fd_Chip_deeds
    F_Chip_deeds := F_Chip_deeds
    bd_Chip_deeds := b_Chip_deeds
    k_Chip_deeds := k_Chip_deeds
    a_Rule_goes_ahead := (A.getD 101 0)
    fd_Rule_goes_ahead := fd_Rule_goes_ahead
    F_Rule_goes_ahead := F_Rule_goes_ahead
    bd_Rule_goes_ahead := b_Rule_goes_ahead
    k_Rule_goes_ahead := k_Rule_goes_ahead
    a_Rule_choose := (A.getD 102 0)
    fd_Rule_choose := fd_Rule_choose
    F_Rule_choose := F_Rule_choose
    bd_Rule_choose := b_Rule_choose
    k_Rule_choose := k_Rule_choose
    a_Terms_init := (A.getD 103 0)
    fd_Terms_init := fd_Terms_init
    F_Terms_init := F_Terms_init
    k_Terms_init := k_Terms_init
    ds2_Terms_init := ds2_Terms_init
    dv2_Terms_init := dv2_Terms_init
    bd2_Terms_init := bd2_Terms_init
    a_Terms_closed := (A.getD 104 0)
    fd_Terms_closed := fd_Terms_closed
    F_Terms_closed := F_Terms_closed
    bd_Terms_closed := b_Terms_closed
    k_Terms_closed := k_Terms_closed
    a__law_cell_at := (A.getD 105 0)
    fd__law_cell_at := fd__law_cell_at
    F__law_cell_at := F__law_cell_at
    bd__law_cell_at := b__law_cell_at
    k__law_cell_at := k__law_cell_at
    g__law_cell_at := PySem.W.mg_of X G a__law_cell_at
    a__law_whole := (A.getD 106 0)
    fd__law_whole := fd__law_whole
    F__law_whole := F__law_whole
    bd__law_whole := b__law_whole
    k__law_whole := k__law_whole
    g__law_whole := PySem.W.mg_of X G a__law_whole
    a__law_mix := (A.getD 107 0)
    fd__law_mix := fd__law_mix
    F__law_mix := F__law_mix
    bd__law_mix := b__law_mix
    k__law_mix := k__law_mix
    g__law_mix := PySem.W.mg_of X G a__law_mix
    a__law_ills := (A.getD 108 0)
    fd__law_ills := fd__law_ills
    F__law_ills := F__law_ills
    bd__law_ills := b__law_ills
    k__law_ills := k__law_ills
    g__law_ills := PySem.W.mg_of X G a__law_ills
    a__law_wiped := (A.getD 109 0)
    fd__law_wiped := fd__law_wiped
    F__law_wiped := F__law_wiped
    bd__law_wiped := b__law_wiped
    k__law_wiped := k__law_wiped
    g__law_wiped := PySem.W.mg_of X G a__law_wiped
    a__law_due := (A.getD 110 0)
    fd__law_due := fd__law_due
    F__law_due := F__law_due
    bd__law_due := b__law_due
    k__law_due := k__law_due
    g__law_due := PySem.W.mg_of X G a__law_due
    a__law_right := (A.getD 111 0)
    fd__law_right := fd__law_right
    F__law_right := F__law_right
    bd__law_right := b__law_right
    k__law_right := k__law_right
    g__law_right := PySem.W.mg_of X G a__law_right
    a_law := (A.getD 112 0)
    fd_law := fd_law
    F_law := F_law
    bd_law := b_law
    k_law := k_law
    C_Book := (A.getD 2 0)
    g_Book := PySem.W.mg_of X G aC_Book
    cl_Book := ⟨pg_Book, hd_Book, po_Book, sa_Book⟩
    na_Book_blocks := na_Book_blocks
    na_Book_pages := na_Book_pages
    na_Book_where := na_Book_where
    na_Book_names := na_Book_names
    na_Book_live := na_Book_live
    na_Book_filled := na_Book_filled
    na_Book_born := na_Book_born
    na_Book_stamp := na_Book_stamp
    mk_Book := ⟨mi_Book, at_Book_init, fn_Book_init, kc_Book⟩
    m_Book_mark := ⟨at_Book_mark, fn_Book_mark, k_Book_mark⟩
    m_Book_note := ⟨at_Book_note, fn_Book_note, k_Book_note⟩
    m_Book_forget := ⟨at_Book_forget, fn_Book_forget, k_Book_forget⟩
    m_Book_emptied := ⟨at_Book_emptied, fn_Book_emptied, k_Book_emptied⟩
    m_Book_live_pages := ⟨at_Book_live_pages, fn_Book_live_pages, k_Book_live_pages⟩
    m_Book_held := ⟨at_Book_held, fn_Book_held, k_Book_held⟩
    m_Book_tell := ⟨at_Book_tell, fn_Book_tell, k_Book_tell⟩
    C_Plain := (A.getD 3 0)
    g_Plain := PySem.W.mg_of X G aC_Plain
    cl_Plain := ⟨pg_Plain, hd_Plain, po_Plain, sa_Plain⟩
    na_Plain_chip := na_Plain_chip
    na_Plain_terms := na_Plain_terms
    na_Plain_book := na_Plain_book
    mk_Plain := ⟨mi_Plain, at_Plain_init, fn_Plain_init, kc_Plain⟩
    m_Plain_good := ⟨at_Plain_good, fn_Plain_good, k_Plain_good⟩
    m_Plain_free := ⟨at_Plain_free, fn_Plain_free, k_Plain_free⟩
    m_Plain_part := ⟨at_Plain_part, fn_Plain_part, k_Plain_part⟩
    m_Plain_spot := ⟨at_Plain_spot, fn_Plain_spot, k_Plain_spot⟩
    m_Plain_reserve := ⟨at_Plain_reserve, fn_Plain_reserve, k_Plain_reserve⟩
    m_Plain_ready := ⟨at_Plain_ready, fn_Plain_ready, k_Plain_ready⟩
    m_Plain_make_ready := ⟨at_Plain_make_ready, fn_Plain_make_ready, k_Plain_make_ready⟩
    m_Plain_set_down := ⟨at_Plain_set_down, fn_Plain_set_down, k_Plain_set_down⟩
    m_Plain_lay := ⟨at_Plain_lay, fn_Plain_lay, k_Plain_lay⟩
    m_Plain_need_sheet := ⟨at_Plain_need_sheet, fn_Plain_need_sheet, k_Plain_need_sheet⟩
    m_Plain_write := ⟨at_Plain_write, fn_Plain_write, k_Plain_write⟩
    m_Plain_read := ⟨at_Plain_read, fn_Plain_read, k_Plain_read⟩
    m_Plain_held := ⟨at_Plain_held, fn_Plain_held, k_Plain_held⟩
    C_Store := (A.getD 4 0)
    g_Store := PySem.W.mg_of X G aC_Store
    cl_Store := ⟨pg_Store, hd_Store, po_Store, sa_Store⟩
    na_Store_rule := na_Store_rule
    na_Store_papers := na_Store_papers
    na_Store_chip := na_Store_chip
    na_Store_terms := na_Store_terms
    na_Store_book := na_Store_book
    mk_Store := ⟨mi_Store, at_Store_init, fn_Store_init, kc_Store⟩
    m_Store_good := ⟨at_Store_good, fn_Plain_good, k_Plain_good⟩
    m_Store_free := ⟨at_Store_free, fn_Plain_free, k_Plain_free⟩
    m_Store_part := ⟨at_Store_part, fn_Plain_part, k_Plain_part⟩
    m_Store_spot := ⟨at_Store_spot, fn_Plain_spot, k_Plain_spot⟩
    m_Store_reserve := ⟨at_Store_reserve, fn_Store_reserve, k_Store_reserve⟩
    m_Store_ready := ⟨at_Store_ready, fn_Plain_ready, k_Plain_ready⟩
    m_Store_make_ready := ⟨at_Store_make_ready, fn_Store_make_ready, k_Store_make_ready⟩
    m_Store_set_down := ⟨at_Store_set_down, fn_Plain_set_down, k_Plain_set_down⟩
    m_Store_lay := ⟨at_Store_lay, fn_Plain_lay, k_Plain_lay⟩
    m_Store_need_sheet := ⟨at_Store_need_sheet, fn_Plain_need_sheet, k_Plain_need_sheet⟩
    m_Store_write := ⟨at_Store_write, fn_Plain_write, k_Plain_write⟩
    m_Store_read := ⟨at_Store_read, fn_Plain_read, k_Plain_read⟩
    m_Store_held := ⟨at_Store_held, fn_Plain_held, k_Plain_held⟩
    m_Store_space := ⟨at_Store_space, fn_Store_space, k_Store_space⟩
    m_Store_tally := ⟨at_Store_tally, fn_Store_tally, k_Store_tally⟩
    m_Store_full_ones := ⟨at_Store_full_ones, fn_Store_full_ones, k_Store_full_ones⟩
    m_Store_options := ⟨at_Store_options, fn_Store_options, k_Store_options⟩
    m_Store_otherwise := ⟨at_Store_otherwise, fn_Store_otherwise, k_Store_otherwise⟩
    m_Store_choice := ⟨at_Store_choice, fn_Store_choice, k_Store_choice⟩
    m_Store_value_for := ⟨at_Store_value_for, fn_Store_value_for, k_Store_value_for⟩
    m_Store_moved := ⟨at_Store_moved, fn_Store_moved, k_Store_moved⟩
    m_Store_wiped := ⟨at_Store_wiped, fn_Store_wiped, k_Store_wiped⟩
    m_Store_make_room := ⟨at_Store_make_room, fn_Store_make_room, k_Store_make_room⟩
    C_Even := (A.getD 5 0)
    g_Even := PySem.W.mg_of X G aC_Even
    cl_Even := ⟨pg_Even, hd_Even, po_Even, sa_Even⟩
    na_Even_rule := na_Even_rule
    na_Even_papers := na_Even_papers
    na_Even_chip := na_Even_chip
    na_Even_terms := na_Even_terms
    na_Even_book := na_Even_book
    mk_Even := ⟨mi_Even, at_Even_init, fn_Store_init, kc_Even⟩
    m_Even_good := ⟨at_Even_good, fn_Plain_good, k_Plain_good⟩
    m_Even_free := ⟨at_Even_free, fn_Plain_free, k_Plain_free⟩
    m_Even_part := ⟨at_Even_part, fn_Plain_part, k_Plain_part⟩
    m_Even_spot := ⟨at_Even_spot, fn_Plain_spot, k_Plain_spot⟩
    m_Even_reserve := ⟨at_Even_reserve, fn_Store_reserve, k_Store_reserve⟩
    m_Even_ready := ⟨at_Even_ready, fn_Plain_ready, k_Plain_ready⟩
    m_Even_make_ready := ⟨at_Even_make_ready, fn_Store_make_ready, k_Store_make_ready⟩
    m_Even_set_down := ⟨at_Even_set_down, fn_Plain_set_down, k_Plain_set_down⟩
    m_Even_lay := ⟨at_Even_lay, fn_Plain_lay, k_Plain_lay⟩
    m_Even_need_sheet := ⟨at_Even_need_sheet, fn_Plain_need_sheet, k_Plain_need_sheet⟩
    m_Even_write := ⟨at_Even_write, fn_Plain_write, k_Plain_write⟩
    m_Even_read := ⟨at_Even_read, fn_Plain_read, k_Plain_read⟩
    m_Even_held := ⟨at_Even_held, fn_Plain_held, k_Plain_held⟩
    m_Even_space := ⟨at_Even_space, fn_Store_space, k_Store_space⟩
    m_Even_tally := ⟨at_Even_tally, fn_Store_tally, k_Store_tally⟩
    m_Even_full_ones := ⟨at_Even_full_ones, fn_Store_full_ones, k_Store_full_ones⟩
    m_Even_options := ⟨at_Even_options, fn_Even_options, k_Even_options⟩
    m_Even_otherwise := ⟨at_Even_otherwise, fn_Even_otherwise, k_Even_otherwise⟩
    m_Even_choice := ⟨at_Even_choice, fn_Store_choice, k_Store_choice⟩
    m_Even_value_for := ⟨at_Even_value_for, fn_Store_value_for, k_Store_value_for⟩
    m_Even_moved := ⟨at_Even_moved, fn_Store_moved, k_Store_moved⟩
    m_Even_wiped := ⟨at_Even_wiped, fn_Store_wiped, k_Store_wiped⟩
    m_Even_make_room := ⟨at_Even_make_room, fn_Store_make_room, k_Store_make_room⟩
    m_Even_clearings_of := ⟨at_Even_clearings_of, fn_Even_clearings_of, k_Even_clearings_of⟩
    m_Even_least := ⟨at_Even_least, fn_Even_least, k_Even_least⟩
    m_Even_gap := ⟨at_Even_gap, fn_Even_gap, k_Even_gap⟩
    m_Even_spared := ⟨at_Even_spared, fn_Even_spared, k_Even_spared⟩
    m_Even_changes := ⟨at_Even_changes, fn_Even_changes, k_Even_changes⟩
    C_Chip := (A.getD 6 0)
    g_Chip := PySem.W.mg_of X G aC_Chip
    cl_Chip := ⟨pg_Chip, hd_Chip, po_Chip, sa_Chip⟩
    na_Chip_blocks := na_Chip_blocks
    na_Chip_pages := na_Chip_pages
    na_Chip_most := na_Chip_most
    na_Chip_lasts := na_Chip_lasts
    na_Chip_stuff := na_Chip_stuff
    na_Chip_tried := na_Chip_tried
    na_Chip_clearings := na_Chip_clearings
    na_Chip_broken := na_Chip_broken
    na_Chip_left := na_Chip_left
    na_Chip_log := na_Chip_log
    mk_Chip := ⟨mi_Chip, at_Chip_init, fn_Chip_init, kc_Chip⟩
    m_Chip_need_page := ⟨at_Chip_need_page, fn_Chip_need_page, k_Chip_need_page⟩
    m_Chip_need_block := ⟨at_Chip_need_block, fn_Chip_need_block, k_Chip_need_block⟩
    m_Chip_need_power := ⟨at_Chip_need_power, fn_Chip_need_power, k_Chip_need_power⟩
    m_Chip_need_good := ⟨at_Chip_need_good, fn_Chip_need_good, k_Chip_need_good⟩
    m_Chip_goes_well := ⟨at_Chip_goes_well, fn_Chip_goes_well, k_Chip_goes_well⟩
    m_Chip_put := ⟨at_Chip_put, fn_Chip_put, k_Chip_put⟩
    m_Chip_wipe := ⟨at_Chip_wipe, fn_Chip_wipe, k_Chip_wipe⟩
    m_Chip_read := ⟨at_Chip_read, fn_Chip_read, k_Chip_read⟩
    m_Chip_is_dark := ⟨at_Chip_is_dark, fn_Chip_is_dark, k_Chip_is_dark⟩
    m_Chip_cleared := ⟨at_Chip_cleared, fn_Chip_cleared, k_Chip_cleared⟩
    m_Chip_failed := ⟨at_Chip_failed, fn_Chip_failed, k_Chip_failed⟩
    m_Chip_deeds := ⟨at_Chip_deeds, fn_Chip_deeds, k_Chip_deeds⟩
    C_Rule := (A.getD 7 0)
    g_Rule := PySem.W.mg_of X G aC_Rule
    cl_Rule := ⟨pg_Rule, hd_Rule, po_Rule, sa_Rule⟩
    mk0_Rule := ⟨mi_Rule, oi_Rule, kc_Rule⟩
    m_Rule_goes_ahead := ⟨at_Rule_goes_ahead, fn_Rule_goes_ahead, k_Rule_goes_ahead⟩
    m_Rule_choose := ⟨at_Rule_choose, fn_Rule_choose, k_Rule_choose⟩
    C_Terms := (A.getD 8 0)
    g_Terms := PySem.W.mg_of X G aC_Terms
    cl_Terms := ⟨pg_Terms, hd_Terms, po_Terms, sa_Terms⟩
    na_Terms_blocks := na_Terms_blocks
    na_Terms_pages := na_Terms_pages
    na_Terms_sheets := na_Terms_sheets
    na_Terms_share := na_Terms_share
    na_Terms_ill := na_Terms_ill
    na_Terms_spread := na_Terms_spread
    mk_Terms := ⟨mi_Terms, at_Terms_init, fn_Terms_init, kc_Terms⟩
    m_Terms_closed := ⟨at_Terms_closed, fn_Terms_closed, k_Terms_closed⟩
    C_WornError := (A.getD 9 0)
    g_WornError := PySem.W.mg_of X G aC_WornError
    xc_WornError := ⟨xq_WornError, xk_WornError, xr_WornError, xt_WornError⟩
    C_NoChip := (A.getD 10 0)
    g_NoChip := PySem.W.mg_of X G aC_NoChip
    xc_NoChip := ⟨xq_NoChip, xk_NoChip, xr_NoChip, xt_NoChip⟩
    C_NoPlace := (A.getD 11 0)
    g_NoPlace := PySem.W.mg_of X G aC_NoPlace
    xc_NoPlace := ⟨xq_NoPlace, xk_NoPlace, xr_NoPlace, xt_NoPlace⟩
    C_PowerGone := (A.getD 12 0)
    g_PowerGone := PySem.W.mg_of X G aC_PowerGone
    xc_PowerGone := ⟨xq_PowerGone, xk_PowerGone, xr_PowerGone, xt_PowerGone⟩
    C_BlockFailed := (A.getD 13 0)
    g_BlockFailed := PySem.W.mg_of X G aC_BlockFailed
    xi_BlockFailed := ⟨xo_BlockFailed, xi_BlockFailed, xt_BlockFailed, xfB_ok xf_BlockFailed⟩
    nx_BlockFailed_block := nx_BlockFailed_block
    C_NotClear := (A.getD 14 0)
    g_NotClear := PySem.W.mg_of X G aC_NotClear
    xi_NotClear := ⟨xo_NotClear, xi_NotClear, xt_NotClear, xfB_ok xf_NotClear⟩
    nx_NotClear_page := nx_NotClear_page
    C_NoTerms := (A.getD 15 0)
    g_NoTerms := PySem.W.mg_of X G aC_NoTerms
    xc_NoTerms := ⟨xq_NoTerms, xk_NoTerms, xr_NoTerms, xt_NoTerms⟩
    C_NoSheet := (A.getD 16 0)
    g_NoSheet := PySem.W.mg_of X G aC_NoSheet
    xc_NoSheet := ⟨xq_NoSheet, xk_NoSheet, xr_NoSheet, xt_NoSheet⟩
    C_NoValue := (A.getD 17 0)
    g_NoValue := PySem.W.mg_of X G aC_NoValue
    xc_NoValue := ⟨xq_NoValue, xk_NoValue, xr_NoValue, xt_NoValue⟩
    C_Full := (A.getD 18 0)
    g_Full := PySem.W.mg_of X G aC_Full
    xc_Full := ⟨xq_Full, xk_Full, xr_Full, xt_Full⟩
    C_NoRoom := (A.getD 19 0)
    g_NoRoom := PySem.W.mg_of X G aC_NoRoom
    xc_NoRoom := ⟨xq_NoRoom, xk_NoRoom, xr_NoRoom, xt_NoRoom⟩
    wi_WornError := ⟨wa_WornError, wr_WornError, fclB_ok wf_WornError⟩
    ci_Plain := ⟨wa_Plain, wr_Plain, fclB_ok wf_Plain⟩
    ic_Even := ⟨ia_Even, in_Even, it_Even, io_Even⟩
    kn_Even_Store := kd_Even_Store
    kn_Even_Plain := kd_Even_Plain
    em_NoRoom_BlockFailed := em_NoRoom_BlockFailed
    em_NoTerms_BlockFailed := em_NoTerms_BlockFailed
    em_NoSheet_BlockFailed := em_NoSheet_BlockFailed
    em_NoValue_BlockFailed := em_NoValue_BlockFailed
    em_Full_BlockFailed := em_Full_BlockFailed
    em_NoChip_BlockFailed := em_NoChip_BlockFailed
    em_NoPlace_BlockFailed := em_NoPlace_BlockFailed
    em_PowerGone_BlockFailed := em_PowerGone_BlockFailed
    em_BlockFailed_BlockFailed := em_BlockFailed_BlockFailed
    em_NotClear_BlockFailed := em_NotClear_BlockFailed
    b_len := PySem.W.mg_none_of X G z_len
    b_isinstance := PySem.W.mg_none_of X G z_isinstance
    b_min := PySem.W.mg_none_of X G z_min
    b_max := PySem.W.mg_none_of X G z_max
    b_sorted := PySem.W.mg_none_of X G z_sorted
    b_int := PySem.W.mg_none_of X G z_int
    b_str := PySem.W.mg_none_of X G z_str
    b_list := PySem.W.mg_none_of X G z_list
    b_bool := PySem.W.mg_none_of X G z_bool
    b_range := PySem.W.mg_none_of X G z_range
    b_ValueError := PySem.W.mg_none_of X G z_ValueError
    u_ROLL := gvK K "ROLL"
    g_ROLL := PySem.W.mg_of X G v_ROLL
    r_ROLL := He.relB_ok vr_ROLL
    u_MANY := gvK K "MANY"
    g_MANY := PySem.W.mg_of X G v_MANY
    r_MANY := He.relB_ok vr_MANY
    u_MOST := gvK K "MOST"
    g_MOST := PySem.W.mg_of X G v_MOST
    r_MOST := He.relB_ok vr_MOST }
  have bl : ∀ (s : Shared) (v : Value), BindsTo s fd_law ⟨[v], []⟩ [("_law_script", v)] := fun s v => by
    have bb := D_law.bindsA (ps := ["_law_script"]) (fun _ _ _ _ _ _ us hl => match us, hl with | [_], _ => rfl) s [v] rfl
    exact bb
  exact ⟨T.fd_law, bl, fun base _ _ => ok_law T⟩
def nmK0 : List PySem.Str := ["_wall", "WornError", "NoChip", "NoPlace", "PowerGone", "BlockFailed", "NotClear", "NoTerms", "NoSheet", "NoValue", "Full", "NoRoom", "ROLL", "mark_of", "bits_of", "Book", "is_whole", "is_within", "Plain", "Store", "blocks_taken", "Even", "MANY", "MOST", "endurance", "Chip", "Rule", "Terms", "_law_cell_at", "_law_whole"]
def nmK1 : List PySem.Str := ["_law_mix", "_law_ills", "_law_wiped", "_law_due", "_law_right"]
def nmK : List PySem.Str := nmK0 ++ (nmK1)
abbrev RK : PySem.W.OpenRow := PySem.W.OpenLaw.row PySem.Challenge.rw_wornpages_k41_least_and_gap
abbrev qK : Program := PySem.W.view RK.prog [46]
def lsK0 (g : Addr → Option Obj) : List Addr := [mainGlobals, cStatics, gK g "Book", gK g "Plain", gK g "Store", gK g "Even", gK g "Chip", gK g "Rule", gK g "Terms", gK g "WornError", gK g "NoChip", gK g "NoPlace", gK g "PowerGone", gK g "BlockFailed", gK g "NotClear", gK g "NoTerms", gK g "NoSheet", gK g "NoValue", gK g "Full", gK g "NoRoom"]
def lsK1 (g : Addr → Option Obj) : List Addr := [nsK g (gK g "Book"), nsK g (gK g "Plain"), nsK g (gK g "Store"), nsK g (gK g "Even"), nsK g (gK g "Chip"), nsK g (gK g "Rule"), nsK g (gK g "Terms"), nsK g (gK g "WornError"), nsK g (gK g "NoChip"), nsK g (gK g "NoPlace"), nsK g (gK g "PowerGone"), nsK g (gK g "BlockFailed"), nsK g (gK g "NotClear"), nsK g (gK g "NoTerms"), nsK g (gK g "NoSheet"), nsK g (gK g "NoValue"), nsK g (gK g "Full"), nsK g (gK g "NoRoom"), mK g "BlockFailed" "__init__", mK g "NotClear" "__init__"]
def lsK2 (g : Addr → Option Obj) : List Addr := [gK g "mark_of", gK g "bits_of", mK g "Book" "__init__", mK g "Book" "mark", mK g "Book" "note", mK g "Book" "forget", mK g "Book" "emptied", mK g "Book" "live_pages", mK g "Book" "held", mK g "Book" "tell", gK g "is_whole", gK g "is_within", mK g "Plain" "__init__", mK g "Plain" "good", mK g "Plain" "free", mK g "Plain" "part", mK g "Plain" "spot", mK g "Plain" "reserve", mK g "Plain" "ready", mK g "Plain" "make_ready"]
def lsK3 (g : Addr → Option Obj) : List Addr := [mK g "Plain" "set_down", mK g "Plain" "lay", mK g "Plain" "need_sheet", mK g "Plain" "write", mK g "Plain" "read", mK g "Plain" "held", mK g "Store" "__init__", mK g "Store" "reserve", mK g "Store" "space", mK g "Store" "tally", mK g "Store" "full_ones", mK g "Store" "options", mK g "Store" "otherwise", mK g "Store" "choice", mK g "Store" "value_for", mK g "Store" "moved", mK g "Store" "wiped", mK g "Store" "make_room", mK g "Store" "make_ready", gK g "blocks_taken"]
def lsK4 (g : Addr → Option Obj) : List Addr := [mK g "Even" "clearings_of", mK g "Even" "least", mK g "Even" "gap", mK g "Even" "spared", mK g "Even" "options", mK g "Even" "otherwise", mK g "Even" "changes", gK g "endurance", mK g "Chip" "__init__", mK g "Chip" "need_page", mK g "Chip" "need_block", mK g "Chip" "need_power", mK g "Chip" "need_good", mK g "Chip" "goes_well", mK g "Chip" "put", mK g "Chip" "wipe", mK g "Chip" "read", mK g "Chip" "is_dark", mK g "Chip" "cleared", mK g "Chip" "failed"]
def lsK5 (g : Addr → Option Obj) : List Addr := [mK g "Chip" "deeds", mK g "Rule" "goes_ahead", mK g "Rule" "choose", mK g "Terms" "__init__", mK g "Terms" "closed", gK g "_law_cell_at", gK g "_law_whole", gK g "_law_mix", gK g "_law_ills", gK g "_law_wiped", gK g "_law_due", gK g "_law_right", gK g "law", cdK g (mK g "BlockFailed" "__init__"), cdK g (mK g "NotClear" "__init__"), cdK g (gK g "mark_of"), cdK g (gK g "bits_of"), cdK g (mK g "Book" "__init__"), cdK g (mK g "Book" "mark"), cdK g (mK g "Book" "note")]
def lsK6 (g : Addr → Option Obj) : List Addr := [cdK g (mK g "Book" "forget"), cdK g (mK g "Book" "emptied"), cdK g (mK g "Book" "live_pages"), cdK g (mK g "Book" "held"), cdK g (mK g "Book" "tell"), cdK g (gK g "is_whole"), cdK g (gK g "is_within"), cdK g (mK g "Plain" "__init__"), cdK g (mK g "Plain" "good"), cdK g (mK g "Plain" "free"), cdK g (mK g "Plain" "part"), cdK g (mK g "Plain" "spot"), cdK g (mK g "Plain" "reserve"), cdK g (mK g "Plain" "ready"), cdK g (mK g "Plain" "make_ready"), cdK g (mK g "Plain" "set_down"), cdK g (mK g "Plain" "lay"), cdK g (mK g "Plain" "need_sheet"), cdK g (mK g "Plain" "write"), cdK g (mK g "Plain" "read")]
def lsK7 (g : Addr → Option Obj) : List Addr := [cdK g (mK g "Plain" "held"), cdK g (mK g "Store" "__init__"), cdK g (mK g "Store" "reserve"), cdK g (mK g "Store" "space"), cdK g (mK g "Store" "tally"), cdK g (mK g "Store" "full_ones"), cdK g (mK g "Store" "options"), cdK g (mK g "Store" "otherwise"), cdK g (mK g "Store" "choice"), cdK g (mK g "Store" "value_for"), cdK g (mK g "Store" "moved"), cdK g (mK g "Store" "wiped"), cdK g (mK g "Store" "make_room"), cdK g (mK g "Store" "make_ready"), cdK g (gK g "blocks_taken"), cdK g (mK g "Even" "clearings_of"), cdK g (mK g "Even" "least"), cdK g (mK g "Even" "gap"), cdK g (mK g "Even" "spared"), cdK g (mK g "Even" "options")]
def lsK8 (g : Addr → Option Obj) : List Addr := [cdK g (mK g "Even" "otherwise"), cdK g (mK g "Even" "changes"), cdK g (gK g "endurance"), cdK g (mK g "Chip" "__init__"), cdK g (mK g "Chip" "need_page"), cdK g (mK g "Chip" "need_block"), cdK g (mK g "Chip" "need_power"), cdK g (mK g "Chip" "need_good"), cdK g (mK g "Chip" "goes_well"), cdK g (mK g "Chip" "put"), cdK g (mK g "Chip" "wipe"), cdK g (mK g "Chip" "read"), cdK g (mK g "Chip" "is_dark"), cdK g (mK g "Chip" "cleared"), cdK g (mK g "Chip" "failed"), cdK g (mK g "Chip" "deeds"), cdK g (mK g "Rule" "goes_ahead"), cdK g (mK g "Rule" "choose"), cdK g (mK g "Terms" "__init__"), cdK g (mK g "Terms" "closed")]
def lsK9 (g : Addr → Option Obj) : List Addr := [cdK g (gK g "_law_cell_at"), cdK g (gK g "_law_whole"), cdK g (gK g "_law_mix"), cdK g (gK g "_law_ills"), cdK g (gK g "_law_wiped"), cdK g (gK g "_law_due"), cdK g (gK g "_law_right"), cdK g (gK g "law"), dfK g (mK g "Chip" "__init__"), dfK g (mK g "Terms" "__init__")]
def lsK (g : Addr → Option Obj) : List Addr := lsK0 g ++ (lsK1 g ++ (lsK2 g ++ (lsK3 g ++ (lsK4 g ++ (lsK5 g ++ (lsK6 g ++ (lsK7 g ++ (lsK8 g ++ (lsK9 g)))))))))
abbrev hkK : PySem.W.Hook := hookK lsK fsK fnK
def obK (s : PySem.W.SharedT) : FnWK := obsKG lsK fsK fnK (HandSHeadRun.getT s)
theorem obK_eq (s : PySem.W.SharedT) : obK s = hkK.obs s.abs := obsKG_eq (HandSHeadRun.getT_eq s)
theorem runK (w : World) : HandSHeadRun.RunEq RK qK hkK obK 20000 nmK w := by
  intro os
  kernel_rfl
end My
open PySem PySem.W PySem.Calls PyProof.Rows
theorem PySem.Challenge.cw_wornpages_k41_least_and_gap_holds : PySem.Challenge.rw_wornpages_k41_least_and_gap.Holds := by
  w_on; o_law
  refine HandSHeadRun.head_any (r := My.RK) (q := My.qK) (H := My.hkK) (ob := My.obK) (M := 20000) (loose := My.nmK) (d := HandSHeadRun.topDef My.RK.prog 46) (kwd := []) My.obK_eq
    (by kernel_rfl) (fun s => by kernel_rfl) My.runK (by kernel_rfl) (by kernel_rfl) (by kernel_rfl) (by rfl) (by first | assumption | decide +kernel) (by decide +kernel) ⟨rfl, rfl, rfl, rfl, rfl, by decide +kernel⟩ ?hw ?hc
  case hw => w_witness2
  case hc =>
    refine Kit.walk_ofW (l := PySem.Challenge.rw_wornpages_k41_least_and_gap) (n := 63) (k := 9) (x := "_law_script") (CX := fun w => L2.CX (PySem.Challenge.rw_wornpages_k41_least_and_gap).prog w) rfl (by decide) (by kernel_rfl) ⟨rfl, by decide, by decide⟩ ?F ?X
    case X =>
      intro w H s e s' z
      obtain ⟨_, _, _, _, _, _, _, _, _, _, _, _, z⟩ := z
      exact z.elim
    intro w mg fa h Y G hmg0
    obtain ⟨K, A, KX, c⟩ := Y
    have hmg : mg ("law" : PySem.Str) = some (.ref fa) := by
      have e : (HandSHeadRun.topDef My.RK.prog 46).name = ("law" : PySem.Str) := by kernel_rfl
      rw [← e]
      exact hmg0
    obtain ⟨fd, hb, hF⟩ := My.txt_of (l := PySem.Challenge.rw_wornpages_k41_least_and_gap) (w := w) KX G hmg c
    exact ⟨K, fd, My.spLaw K, KX, hb, fun H a ns hl _ hS => ⟨a, ns, rfl, hS, hl, fun _ => rfl⟩, hF⟩

#print axioms PySem.Challenge.cw_wornpages_k41_least_and_gap_holds
