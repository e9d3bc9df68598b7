import PyProof.Rows.All
import Wide.All
import OpenK.AllK
import Wide.FinOn
import HandS.ForMost
import HandS.ForExc
import HandS.Flow
import HandS.Wide
import HandS.WideBits
import HandS.IsInst
import HandS.ExcInit
import HandS.ExcField
import HandS.ExcIs
import HandS.TryMany
import HandS.SetKeys
import HandS.More
import HandS.Deep
import HandS.TupSets
import HandS.SortRule
import HandS.SortInts
import HandS.Walk
import HandS.RevTup
import HandS.Rev
import HandS.Conv
import HandS.WordsDict
import HandS.Style
import HandS.HeadHook2
import HandS.DictTup
import PySem.Challenge.RW_wornpages_k27_window
set_option Elab.async false
set_option linter.all false
set_option maxRecDepth 100000
set_option maxHeartbeats 4000000
/-! Kit: unified operators, method calls by the receiver's class, and step lemmas for readings. -/
namespace Kit
open PySem PySem.Spec PyProof.Rows L2

section
variable {X : Cx}
/-! ### unified operators -/
abbrev rStrAdd : R2 := fun x y H Q => ∃ i j, x = .str i ∧ y = .str j ∧ i.length + j.length ≤ sizeLine ∧ Q (.str (i ++ j)) H
def uAdd (K : PySem.W.Frag) : R2 := fun x y H Q => rI0 (fun i j => .int (i + j)) x y H Q ∨ (rStrAdd x y H Q ∨ (rCat x y H Q ∨ rCatT K x y H Q))
theorem op_uAdd : OpR X (binaryOp .Add) (uAdd X.K) := op_add.or (op_add_str.or (op_cat.or op_catT))
def uMul : R2 := fun x y H Q => rI CMul (fun i j => .int (i * j)) x y H Q ∨ (rRep x y H Q ∨ rI CMulW (fun i j => .int (i * j)) x y H Q)
theorem op_uMul : OpR X (binaryOp .Mult) uMul := op_mul.or (op_rep.or op_mulW)
def uShl : R2 := rI CShl fun i j => .int (i * 2 ^ j.toNat)
theorem op_uShl : OpR X (binaryOp .LShift) uShl := op_shlW
def uEq (K : PySem.W.Frag) : R2 := fun x y H Q => rEq x y H Q ∨ rEqD K x y H Q
theorem op_uEq (hu : X.A.units + 64 < cLine) : OpR X (compareOp .Eq) (uEq X.K) := op_eq.or (op_eqD hu)
def uNe (K : PySem.W.Frag) : R2 := fun x y H Q => rNe x y H Q ∨ rNeD K x y H Q
theorem op_uNe (hu : X.A.units + 64 < cLine) : OpR X (compareOp .NotEq) (uNe X.K) := op_ne.or (op_neD hu)
abbrev rLtI : R2 := rI0 fun i j => .bl (decide (i < j))
def uLt : R2 := rLtI
theorem op_uLt : OpR X (compareOp .Lt) uLt := op_lt
def uIn (K : PySem.W.Frag) : R2 := rIn K false
theorem op_uIn : OpR X (compareOp .In) (uIn X.K) := op_in_seq
def uNotIn (K : PySem.W.Frag) : R2 := rIn K true
theorem op_uNotIn : OpR X (compareOp .NotIn) (uNotIn X.K) := op_notIn_seq
abbrev rIsNon : R2 := fun x y H Q => y = .non ∧ Q (.bl (decide (x = .non))) H
abbrev rIsNotNon : R2 := fun x y H Q => y = .non ∧ Q (.bl (!decide (x = .non))) H

def uIs : R2 := fun x y H Q => rIsNon x y H Q ∨ rIsB x y H Q
theorem op_uIs : OpR X (compareOp .Is) uIs := op_isN.or op_isBl
def uIsNot : R2 := fun x y H Q => rIsNotNon x y H Q ∨ rNotB x y H Q
theorem op_uIsNot : OpR X (compareOp .IsNot) uIsNot := op_notN.or op_notBl

/-! ### calls -/
theorem passL2 : ∀ σ, PassesAt (L2.CX X.prog X.w) X σ ((fun _ => E0) σ) := fun _ _ _ _ _ _ _ h => by
  obtain ⟨_, _, _, _, _, _, _, _, _, _, _, _, z⟩ := h
  exact z.elim
/-- a method of a class, by what it promises -/
structure MO (P : Program) (w : World) (K : PySem.W.Frag) (mg : Str → Option Value) (base : Heap) (CX : CXT) (n : Nat) (C : Addr) (m : Str) (sp : Sp) : Prop where
  ex : ∃ f fd ps, Cls K C ∧ Meth K C m f ∧ FnOk P w K mg base CX n f fd ps sp ∧ Binds K fd ps []
variable {CX : CXT} {k : Nat} {f C : Addr} {fd : FuncData} {ps : List Str} {sp : Sp} {dvs : List V} {ds : List Value} {E : L2.St → XK} {x m : Str} {p pos apos : Pos} {e o : Expr} {es : List Expr} {ta : TE} {t : TA}
/-- o.m(..), by the class that o has -/
def mtK (P : Program) (w : World) (K : PySem.W.Frag) (mg : Str → Option Value) (base : Heap) (CX : CXT) (n : Nat) (m : Str) (E : XK) (σ : L2.St) (t : TA) (Q : VK) : V → Hp → Prop := fun x H1 => ∃ a C dx fs sp, x = .ref a ∧ H1 a = some (.ins C dx fs) ∧ fs.lookup m = none ∧
  MO P w K mg base CX n C m sp ∧ t σ H1 fun vs H2 => sp (x :: vs) H2 Q E
def tMethD (P : Program) (w : World) (K : PySem.W.Frag) (mg : Str → Option Value) (base : Heap) (CX : CXT) (n : Nat) (m : Str) (E : L2.St → XK) (ta : TE) (t : TA) : TE := fun σ H Q => ta σ H (mtK P w K mg base CX n m (E σ) σ t Q)
theorem pe_methD {pl : Sem Bool} (he : PE X o ta) (hr : Room k X.A) (hx : ∀ σ, PassesAt CX X σ (E σ)) (ha : PA X (e :: es) t)
    (hst : starEach (e :: es) X.env = (false, eval e X.env) :: starEach es X.env := by rfl) (hpl : (backTo pos (starEach es X.env)).any (·.1) = false := by rfl)
    (ht : eval (.Call (.Attribute o m apos) (e :: es) [] pos) X.env = (do
      let ov ← eval o X.env
      standAt apos.atName
      let (f, first) ← holding [ov] (getMethod ov m pl)
      callWith pos f first (backTo pos (starEach (e :: es) X.env)) (backToKw pos (keywordEach [] X.env))) := by rfl) :
    PE X (.Call (.Attribute o m apos) (e :: es) [] pos) (tMethD X.prog X.w X.K X.mg X.base CX k m E ta t) := by
  refine ⟨fun pins s σ H Q I h => ?_⟩
  refine PySem.W.methodCall_KW (pl := pl) (thn (he.run pins s σ H _ I h) fun u s1 ⟨x, H1, I1, rx, a, C, dx, fs, sp, ex, ea, l, mo, q⟩ => ?_) ht
  subst ex
  obtain rfl : u = Value.ref a := rx
  obtain ⟨f, fd, ps, c, hm, F, hb⟩ := mo.ex
  refine getmeth_ok I1 ea c hm l ?_
  refine PySem.W.callWith_K (first := [.ref a]) (h₀ := X.base) I.ok.mod.kin hm.kp (thn (ha.run pos pins s1 σ H1 _ I1 q) fun us s2 ⟨vs, H2, I2, r, q2⟩ => ⟨I2.kIn, ?_⟩) hst hpl
  exact run_fnS (us := .ref a :: us) (vs := .ref a :: vs) F hr hb (hx σ) I2 (.cons rfl r) q2
theorem pe_methD0 {pl : Sem Bool} (he : PE X o ta) (hr : Room k X.A) (hx : ∀ σ, PassesAt CX X σ (E σ))
    (ht : eval (.Call (.Attribute o m apos) [] [] pos) X.env = (do
      let ov ← eval o X.env
      standAt apos.atName
      let (f, first) ← holding [ov] (getMethod ov m pl)
      callWith pos f first (backTo pos (starEach [] X.env)) (backToKw pos (keywordEach [] X.env))) := by rfl) :
    PE X (.Call (.Attribute o m apos) [] [] pos) (tMethD X.prog X.w X.K X.mg X.base CX k m E ta tNil) := by
  refine ⟨fun pins s σ H Q I h => ?_⟩
  refine PySem.W.methodCall_KW (pl := pl) (thn (he.run pins s σ H _ I h) fun u s1 ⟨x, H1, I1, rx, a, C, dx, fs, sp, ex, ea, l, mo, q⟩ => ?_) ht
  subst ex
  obtain rfl : u = Value.ref a := rx
  obtain ⟨f, fd, ps, c, hm, F, hb⟩ := mo.ex
  refine getmeth_ok I1 ea c hm l ?_
  exact PySem.W.callWith_K0 (first := [.ref a]) I1.kIn hm.kp (run_fnS (us := [.ref a]) (vs := [.ref a]) F hr hb (hx σ) I1 (.cons rfl .nil) q)
theorem pe_callS0 (F : FnOk X.prog X.w X.K X.mg X.base CX k f fd ps sp) (hr : Room k X.A) (hg : Gl X x) (hm : X.mg x = some (.ref f)) (hk : PySem.W.keepIn X.K (.ref f) = true) (hb : Binds X.K fd ps []) (hx : ∀ σ, PassesAt CX X σ (E σ))
    (hdb : (x == ("__debug__" : Str)) = false := by decide) : PE X (.Call (.Name x p) [] [] pos) (tCallS sp E tNil) := by
  refine ⟨fun pins s σ H Q I h => ?_⟩
  refine wpAny_Call_Name_kw (ld_glob I hg hm ?_ hdb)
  exact PySem.W.callWith_K0 I.kIn hk (run_fnS (us := []) F hr hb (hx σ) I .nil h)
/-- C(..), what is raised at the slots -/
def tMakeS (C : Addr) (sp : Sp) (dvs : List V) (E : L2.St → XK) (t : TA) : TE := fun σ H Q => t σ H fun vs H1 => ∀ x dx, H1 x = none → H1 dx = none → dx ≠ x →
  sp (.ref x :: (vs ++ dvs)) (upd (upd H1 dx (.own x)) x (.ins C dx [])) (fun v H2 => v = .non ∧ Q (.ref x) H2) (E σ)
end

section
variable {X : Cx} {CX : CXT} {k : Nat} {f C : Addr} {fd : FuncData} {ps : List Str} {sp : Sp} {dvs : List V} {ds : List Value} {E : L2.St → XK} {x : Str} {p pos : Pos} {e : Expr} {es : List Expr} {t : TA}
/-- a class without an own __init__ -/
structure Mk0 (K : PySem.W.Frag) (C : Addr) : Prop where
  makes : PySem.W.makesIn K C = true
  init : PySem.W.findIn K (.ref C) "__init__" = some (some (.builtin "object.__init__"))
  kp : PySem.W.keepIn K (.ref C) = true
theorem run_make0 {pins : List (Addr × Obj)} {σ : L2.St} {H : Hp} {s : Shared} {Q : VK} (M : Mk0 X.K C) (I : Inv X pins σ H s)
    (h : ∀ x dx, H x = none → H dx = none → dx ≠ x → Q (.ref x) (upd (upd H dx (.own x)) x (.ins C dx []))) : wpAny (model X.prog X.w) X.A (call (.ref C) []) (EP X pins σ Q) X.xe s := by
  have hq := h (s.heap.objs.size + 1) s.heap.objs.size (I.hok.fresh (Nat.le_succ _)) (I.hok.fresh (Nat.le_refl _)) (Nat.ne_of_lt (Nat.lt_succ_self _))
  have I2 := Inv.made (C := C) I
  have KX := I.kIn
  have Y := PySem.W.makes_of (M := model X.prog X.w) KX M.makes
  obtain ⟨hh, g, d, t, os⟩ := s
  refine wpAny_call (PySem.W.make_core Y (PySem.W.looks_findIn KX M.init) (fun self => PySem.W.Looks.of_pure (PySem.W.oi_bind self)) (.inr ⟨rfl, rfl⟩) ?_)
  have e1 : ((hh.push PySem.W.emptyDict).push (PySem.W.instObj C hh.objs.size)).get? (hh.objs.size + 1) = some (PySem.W.instObj C hh.objs.size) := by heap_get
  have t1 : PySem.W.Looks (model X.prog X.w) ((hh.push PySem.W.emptyDict).push (PySem.W.instObj C hh.objs.size)) (typeOf (.ref (hh.objs.size + 1))) (.ref C) := (PySem.W.Looks.ld e1).andThen .now
  have t2 : PySem.W.Looks (model X.prog X.w) ((hh.push PySem.W.emptyDict).push (PySem.W.instObj C hh.objs.size)) (isInstance (.ref (hh.objs.size + 1)) (.type "object")) true :=
    t1.andThen (Y.top.keeps fun b o e => Heap.get?_push_of_some _ (Heap.get?_push_of_some _ e))
  refine codeAny_call_builtin PySem.W.oi_plain PySem.W.entry_oi (@PySem.W.check_slot (model X.prog X.w) _ _ _ "object.__init__" "object" "__init__" (.ref (hh.objs.size + 1)) [] [] _ PySem.W.oi_kind PySem.W.oi_split t2 (PySem.W.oi_args (.ref (hh.objs.size + 1))) ?_)
  rw [PySem.W.oi_run]
  exact wpAny_pure (And.intro rfl ⟨V.ref (hh.objs.size + 1), _, I2, rfl, hq⟩)
def tMake0 (C : Addr) : TE := fun _ H Q => ∀ x dx, H x = none → H dx = none → dx ≠ x → Q (.ref x) (upd (upd H dx (.own x)) x (.ins C dx []))
theorem pe_mkN (M : Mk0 X.K C) (hg : Gl X x) (hm : X.mg x = some (.ref C)) (hdb : (x == ("__debug__" : Str)) = false := by decide) : PE X (.Call (.Name x p) [] [] pos) (tMake0 C) := by
  refine ⟨fun pins s σ H Q I h => ?_⟩
  refine wpAny_Call_Name_kw (ld_glob I hg hm ?_ hdb)
  exact PySem.W.callWith_K0 I.kIn M.kp (run_make0 M I h)
theorem run_makeS {pins : List (Addr × Obj)} {σ : L2.St} {H : Hp} {s : Shared} {Q : VK} {us : List Value} {vs : List V} (M : Mk X.K C f) (F : FnOk X.prog X.w X.K X.mg X.base CX k f fd ps sp) (hr : Room (k + 1) X.A) (hb : Binds X.K fd ps ds) (hd : Vals dvs ds)
    (hx : ∀ σ, PassesAt CX X σ (E σ)) (I : Inv X pins σ H s) (r : Vals vs us)
    (h : ∀ x dx, H x = none → H dx = none → dx ≠ x → sp (.ref x :: (vs ++ dvs)) (upd (upd H dx (.own x)) x (.ins C dx [])) (fun v H2 => v = .non ∧ Q (.ref x) H2) (E σ)) :
    wpAny (model X.prog X.w) X.A (call (.ref C) us) (EP X pins σ Q) X.xe s := by
  have hq := h (s.heap.objs.size + 1) s.heap.objs.size (I.hok.fresh (Nat.le_succ _)) (I.hok.fresh (Nat.le_refl _)) (Nat.ne_of_lt (Nat.lt_succ_self _))
  have I2 := Inv.made (C := C) I
  have r2 : Vals (V.ref (s.heap.objs.size + 1) :: (vs ++ dvs)) (Value.ref (s.heap.objs.size + 1) :: (us ++ ds)) := .cons rfl (r.append hd)
  have hl : (Value.ref (s.heap.objs.size + 1) :: us ++ ds).length = ps.length := by
    have e := r2.length
    rw [F.len _ _ _ _ hq] at e
    exact e.symm
  refine wpAny_call (make_map (f := f) I.kIn M.makes M.init (beq_iff_eq.mp M.fn) (codeAny_mono (F.run _ X.stack _ _ ⟨Value.ref (s.heap.objs.size + 1) :: us, []⟩ (Value.ref (s.heap.objs.size + 1) :: (us ++ ds)) _ _ (E σ) (hr.make C us [])
    (I2.env0.make C us []) (hb _ (Value.ref (s.heap.objs.size + 1) :: us) I2.kIn hl) r2 hq) fun r s' hq' => ?_))
  cases r with
  | error e => exact hx σ pins _ _ e s' I2 hq'
  | ok fl =>
    cases fl with
    | ret u =>
      obtain ⟨v, H', I3, rv, ev, q3⟩ := I2.after hq'
      subst ev
      exact ⟨rv, ⟨V.ref (s.heap.objs.size + 1), H', I3, rfl, q3⟩⟩
    | next => exact False.elim hq'
    | brk => exact False.elim hq'
    | cont => exact False.elim hq'
theorem pe_mkS (M : Mk X.K C f) (F : FnOk X.prog X.w X.K X.mg X.base CX k f fd ps sp) (hr : Room (k + 1) X.A) (hg : Gl X x) (hm : X.mg x = some (.ref C)) (hb : Binds X.K fd ps ds) (hd : Vals dvs ds) (hx : ∀ σ, PassesAt CX X σ (E σ))
    (ha : PA X (e :: es) t) (hdb : (x == ("__debug__" : Str)) = false := by decide) (he : starEach (e :: es) X.env = (false, eval e X.env) :: starEach es X.env := by rfl) (hpl : (backTo pos (starEach es X.env)).any (·.1) = false := by rfl) :
    PE X (.Call (.Name x p) (e :: es) [] pos) (tMakeS C sp dvs E t) := by
  refine ⟨fun pins s σ H Q I h => ?_⟩
  refine wpAny_Call_Name_kw (ld_glob I hg hm ?_ hdb)
  refine PySem.W.callWith_K (h₀ := X.base) I.ok.mod.kin M.kp (thn (ha.run pos pins s σ H _ I h) fun us s1 ⟨vs, H1, I1, r, q⟩ => ⟨I1.kIn, ?_⟩) he hpl
  exact run_makeS M F hr hb hd hx I1 r q
theorem pe_mkS0 (M : Mk X.K C f) (F : FnOk X.prog X.w X.K X.mg X.base CX k f fd ps sp) (hr : Room (k + 1) X.A) (hg : Gl X x) (hm : X.mg x = some (.ref C)) (hb : Binds X.K fd ps ds) (hd : Vals dvs ds) (hx : ∀ σ, PassesAt CX X σ (E σ))
    (hdb : (x == ("__debug__" : Str)) = false := by decide) : PE X (.Call (.Name x p) [] [] pos) (tMakeS C sp dvs E tNil) := by
  refine ⟨fun pins s σ H Q I h => ?_⟩
  refine wpAny_Call_Name_kw (ld_glob I hg hm ?_ hdb)
  exact PySem.W.callWith_K0 I.kIn M.kp (run_makeS (us := []) M F hr hb hd hx I .nil h)
end

/-! ### steps: statements -/
section
variable {σ : L2.St} {H H1 : Hp} {K : PySem.W.Frag} {D : Ends} {t u : TS} {te ta tb : TE} {c : TT} {i : Nat} {v x y : V} {Q : VK} {QB : Bool → Hp → Prop} {A B : Prop} {b : Bool}
theorem x_seq (h : t { D with nx := u D } σ H) : tSeq t u D σ H := h
theorem x_seqA {g : TG} (h : tAsg te g { D with nx := u D } σ H) : tSeq (tAsg te g) u D σ H := h
theorem x_seqD (h : tDrop te { D with nx := u D } σ H) : tSeq (tDrop te) u D σ H := h
theorem x_seqF {f : Str} (h : sFld K ta te f { D with nx := u D } σ H) : tSeq (sFld K ta te f) u D σ H := h
theorem x_seqFA {f : Str} {rd : V → V → Hp → VK → Prop} (h : sFldAug K ta te rd f { D with nx := u D } σ H) : tSeq (sFldAug K ta te rd f) u D σ H := h
theorem x_seqAug {ti : TIp} (h : tAug i te ti { D with nx := u D } σ H) : tSeq (tAug i te ti) u D σ H := h
theorem x_next (q : D.nx σ H) : tNext D σ H := q
theorem x_asg {g : TG} (h : te σ H fun x H1 => g x σ H1 D.nx) : tAsg te g D σ H := h
theorem x_gname {QS : L2.St → Hp → Prop} (q : QS (σ.set i (some v)) H) : gName i v σ H QS := q
theorem x_ret (h : te σ H D.rt) : tRet te D σ H := h
theorem x_retN (h : D.rt .non H) : tRetN D σ H := h
theorem x_drop (h : te σ H fun _ H1 => D.nx σ H1) : tDrop te D σ H := h
theorem x_if (h : c σ H fun b H1 => if b = true then t D σ H1 else u D σ H1) : tIfS c t u D σ H := h
theorem x_iteT (h : A) : if true = true then A else B := iteT h
theorem x_iteF (h : B) : if false = true then A else B := iteF h
theorem x_iteD {p : Prop} [Decidable p] (h1 : p → A) (h2 : ¬ p → B) : if decide p = true then A else B := by
  by_cases h : p
  · rw [decide_eq_true h]; exact iteT (h1 h)
  · rw [decide_eq_false h]; exact iteF (h2 h)
theorem x_iteN (h : if b = true then B else A) : if (!b) = true then A else B := by
  cases b with
  | true => exact h
  | false => exact h
theorem x_iteB (h1 : b = true → A) (h2 : b = false → B) : if b = true then A else B := by
  cases b with
  | true => exact iteT (h1 rfl)
  | false => exact iteF (h2 rfl)
/-- ways that join: J holds at the end of t on every way -/
theorem x_join (J : L2.St → Hp → Prop) (h1 : ∀ R : L2.St → Hp → Prop, (∀ σ' H', J σ' H' → R σ' H') → t { D with nx := R } σ H) (h2 : ∀ σ' H', J σ' H' → u D σ' H') : tSeq t u D σ H := h1 (u D) h2
/-! ### steps: expressions -/
theorem x_var (h : σ[i]? = some (some v)) (q : Q v H) : tVar i σ H Q := ⟨v, h, q⟩
theorem x_c (q : Q v H) : tC v σ H Q := q
theorem x_op {r : R2} (h : ta σ H fun x H1 => tb σ H1 fun y H2 => r x y H2 Q) : tOp r ta tb σ H Q := h
theorem x_un {r : V → Hp → VK → Prop} (h : ta σ H fun x H1 => r x H1 Q) : tUn r ta σ H Q := h
theorem x_cb {r : List V → Hp → VK → Prop} {t : TA} (h : t σ H fun vs H1 => r vs H1 Q) : tCB r t σ H Q := h
theorem x_nil {QA : List V → Hp → Prop} (q : QA [] H) : tNil σ H QA := q
theorem x_cons {QA : List V → Hp → Prop} {tr : TA} (h : ta σ H fun x H1 => tr σ H1 fun xs H2 => QA (x :: xs) H2) : tCons ta tr σ H QA := h
theorem x_callS {sp : Sp} {E : L2.St → XK} {t : TA} (h : t σ H fun vs H1 => sp vs H1 Q (E σ)) : tCallS sp E t σ H Q := h
theorem x_ifExp (h : c σ H fun c H1 => if c = true then ta σ H1 Q else tb σ H1 Q) : tIf c ta tb σ H Q := h
theorem x_test (h : te σ H fun x H' => ∃ k, x = .bl k ∧ QB k H') : tTest te σ H QB := h
theorem x_tB (h : te σ H fun x H' => ∃ k, x = .bl k ∧ QB k H') : tB te σ H QB := h
theorem x_and {t u : TT} (h : t σ H fun c H1 => if c = true then u σ H1 QB else QB false H1) : tAnd t u σ H QB := h
theorem x_or {t u : TT} (h : t σ H fun c H1 => if c = true then QB true H1 else u σ H1 QB) : tOr t u σ H QB := h
theorem x_not {t : TT} (h : t σ H fun c H1 => QB (!c) H1) : tNot t σ H QB := h
theorem x_andT (h : ta σ H fun x H1 => ∃ k, TruV K x H1 k ∧ if k = true then tb σ H1 Q else Q x H1) : tAndT K ta tb σ H Q := h
theorem x_orT (h : ta σ H fun x H1 => ∃ k, TruV K x H1 k ∧ if k = true then Q x H1 else tb σ H1 Q) : tOrT K ta tb σ H Q := h
theorem x_notT (h : ta σ H fun x H1 => ∃ k, TruV K x H1 k ∧ Q (.bl (!k)) H1) : tNotT K ta σ H Q := h
theorem x_truB (q : A) {P : Bool → Prop} (h : P b) : ∃ k, TruV K (.bl b) H k ∧ P k := ⟨b, rfl, h⟩
theorem x_truBl {P : Bool → Prop} (h : P b) : ∃ k, TruV K (.bl b) H k ∧ P k := ⟨b, rfl, h⟩
theorem x_isbl {P : Bool → Prop} (h : P b) : ∃ k, V.bl b = .bl k ∧ P k := ⟨b, rfl, h⟩
theorem x_chain {r r' : R2} {tc : TE} (h : ta σ H fun x H1 => tb σ H1 fun y H2 => r x y H2 fun z H3 => ∃ k, z = .bl k ∧ if k = true then tc σ H3 fun z' H4 => r' y z' H4 Q else Q (.bl false) H3) : tChain r r' ta tb tc σ H Q := h
/-! ### steps: operators on values -/
variable {m n : Int} {s1 s2 : Str}
theorem x_addI (q : Q (.int (m + n)) H) : uAdd K (.int m) (.int n) H Q := .inl ⟨m, n, rfl, rfl, q⟩
theorem x_addS (q : Q (.str (s1 ++ s2)) H) (h : s1.length + s2.length ≤ sizeLine) : uAdd K (.str s1) (.str s2) H Q := .inr (.inl ⟨s1, s2, rfl, rfl, h, q⟩)
theorem x_I0 {g : Int → Int → V} (q : Q (g m n) H) : rI0 g (.int m) (.int n) H Q := ⟨m, n, rfl, rfl, q⟩
theorem x_I {C : Int → Int → Prop} {g : Int → Int → V} (q : Q (g m n) H) (h : C m n) : rI C g (.int m) (.int n) H Q := ⟨m, n, rfl, rfl, h, q⟩
theorem x_pow {g : Int → Int → V} (q : Q (g m n) H) (h : CPow m n) : rI CPow g (.int m) (.int n) H Q := ⟨m, n, rfl, rfl, h, q⟩
theorem x_lt (q : Q (.bl (decide (m < n))) H) : uLt (.int m) (.int n) H Q := ⟨m, n, rfl, rfl, q⟩
theorem x_mulI (q : Q (.int (m * n)) H) (h : CMul m n) : uMul (.int m) (.int n) H Q := .inl ⟨m, n, rfl, rfl, h, q⟩
theorem x_mulU (q : Q (.int (m * n)) H) (h : m.natAbs < 2 ^ 250 ∧ n.natAbs < 2 ^ 250) : uMul (.int m) (.int n) H Q := .inr (.inr ⟨m, n, rfl, rfl, wide_mul h.1 h.2 (by decide) (by decide) (by decide), q⟩)
theorem same_upd {o : HO} {p : Addr} (h : H p = none) : Same H (upd H p o) := fun b u e => by rw [upd_ne (ne_of_none e h)]; exact e
theorem same_updS {H H' : Hp} {o : HO} {p : Addr} (s : Same H H') (h : H p = none) : Same H (upd H' p o) := fun b u e => by rw [upd_ne (ne_of_none e h)]; exact s _ _ e
theorem cutV_from {xs : List V} (k : Nat) : cutV xs (some (k : Int)) none = xs.drop k := by
  unfold cutV
  rw [HT.sIx_nat, HT.sIx_none]
  by_cases h : k ≤ xs.length
  · rw [Nat.min_eq_left h, List.take_of_length_le (by rw [List.length_drop]; exact Nat.le_refl _)]
  · rw [Nat.min_eq_right (by omega), List.drop_of_length_le (Nat.le_refl _), List.drop_of_length_le (by omega), List.take_nil]
theorem cutV_to {xs : List V} (k : Nat) : cutV xs none (some (k : Int)) = xs.take k := by
  unfold cutV
  rw [HT.sIx_nat, HT.sIx_none, List.drop_zero, Nat.sub_zero]
  by_cases h : k ≤ xs.length
  · rw [Nat.min_eq_left h]
  · rw [Nat.min_eq_right (by omega), List.take_of_length_le (Nat.le_refl _), List.take_of_length_le (by omega)]
/-- a new object: what is asked of it -/
abbrev New (H : Hp) (Q : VK) (o : HO) : Prop := ∀ p H1, H p = none → Same H H1 → H1 p = some o → Q (.ref p) H1
theorem New.mk {o : HO} (h : New H Q o) : ∀ p, H p = none → Q (.ref p) (upd H p o) := fun p hp => h p _ hp (same_upd hp) upd_same
def nwL (Q : VK) : List V → Hp → Prop := fun xs H1 => xs.length ≤ sizeLine ∧ ∀ p, H1 p = none → Q (.ref p) (upd H1 p (.lst xs))
def nwT (Q : VK) : List V → Hp → Prop := fun xs H1 => xs.length ≤ sizeLine ∧ ∀ p, H1 p = none → Q (.ref p) (upd H1 p (.tup xs))
theorem x_nwL {xs : List V} (h : New H Q (.lst xs)) (hl : xs.length ≤ sizeLine) : nwL Q xs H := ⟨hl, h.mk⟩
theorem x_nwT {xs : List V} (h : New H Q (.tup xs)) (hl : xs.length ≤ sizeLine) : nwT Q xs H := ⟨hl, h.mk⟩
theorem x_addL {l l' : Addr} {xs ys : List V} (h1 : H l = some (.lst xs)) (h2 : H l' = some (.lst ys)) (q : New H Q (.lst (xs ++ ys))) (hl : xs.length + ys.length ≤ sizeLine) : uAdd K (.ref l) (.ref l') H Q :=
  .inr (.inr (.inl ⟨l, l', xs, ys, rfl, rfl, h1, h2, hl, q.mk⟩))
theorem x_rep {l : Addr} {xs : List V} (h1 : H l = some (.lst xs)) (q : New H Q (.lst (List.replicate n.toNat xs).flatten)) (h2 : n < 2 ^ 63) (h0 : 0 ≤ n) (hl : xs.length * n.toNat ≤ sizeLine) : uMul (.ref l) (.int n) H Q :=
  .inr (.inl ⟨l, n, xs, rfl, rfl, h1, Int.le_trans (by decide) h0, h2, hl, q.mk⟩)
theorem flat_rep {v : V} : ∀ n : Nat, (List.replicate n [v]).flatten = List.replicate n v
  | 0 => rfl
  | n + 1 => by rw [List.replicate_succ, List.flatten_cons, flat_rep n]; rfl
/-- [v] * n -/
theorem x_rep1 {l : Addr} {v : V} (h1 : H l = some (.lst [v])) (q : New H Q (.lst (List.replicate n.toNat v))) (h : 0 ≤ n ∧ n ≤ 1000000) : uMul (.ref l) (.int n) H Q :=
  x_rep h1 (by rw [flat_rep]; exact q) (by omega) h.1 (by rw [List.length_singleton, Nat.one_mul]; exact Nat.le_trans (show n.toNat ≤ 1000000 by omega) (by decide))
theorem cdivW {i j : Int} (h : 0 < j) (h2 : j < 10 ^ 60) : CDivW i j := by
  refine wide_div (b := 200) h ?_ (by decide) (by decide)
  have : (2:Nat) ^ 200 = 1606938044258990275541962092341162602522202993782792835301376 := by decide
  omega
theorem x_shl (q : Q (.int (m * 2 ^ n.toNat)) H) (h : CShl m n) : uShl (.int m) (.int n) H Q := ⟨m, n, rfl, rfl, h, q⟩
theorem x_U {g : Int → V} (q : Q (g m) H) : rU g (.int m) H Q := ⟨m, rfl, q⟩
theorem x_eqI (q : Q (.bl (decide (m = n))) H) : uEq K (.int m) (.int n) H Q := .inl ⟨rfl, by rw [dec_int, ← Bool.beq_eq_decide_eq] at *; exact q⟩
theorem x_neI (q : Q (.bl (!decide (m = n))) H) : uNe K (.int m) (.int n) H Q := .inl ⟨rfl, by rw [dec_int, ← Bool.beq_eq_decide_eq] at *; exact q⟩
theorem x_eqB {b c : Bool} (q : Q (.bl (decide (b = c))) H) : uEq K (.bl b) (.bl c) H Q := .inl ⟨rfl, by rw [dec_bl, ← Bool.beq_eq_decide_eq] at *; exact q⟩
theorem x_neB {b c : Bool} (q : Q (.bl (!decide (b = c))) H) : uNe K (.bl b) (.bl c) H Q := .inl ⟨rfl, by rw [dec_bl, ← Bool.beq_eq_decide_eq] at *; exact q⟩
theorem x_eqS (q : Q (.bl (decide (s1 = s2))) H) : uEq K (.str s1) (.str s2) H Q := .inl ⟨rfl, by rw [dec_str] at *; rw [show decide (s1 = s2) = (s1 == s2) from by rw [Bool.beq_eq_decide_eq]] at q; exact q⟩
theorem x_tup {t : TA} (h : t σ H (nwT Q)) : tTup t σ H Q := h
theorem x_lst {t : TA} (h : t σ H (nwL Q)) : tLst t σ H Q := h
/-! ### steps: sequences -/
variable {p : Addr} {xs : List V} {ns : List Int}
theorem atI_getD {α : Type} {xs : List α} {i : Int} (d : α) (h0 : 0 ≤ i) (h1 : i < xs.length) : atI xs i = some (xs.getD i.toNat d) := by
  obtain ⟨j, rfl⟩ : ∃ j : Nat, i = (j : Int) := ⟨i.toNat, by omega⟩
  have hj : j < xs.length := by omega
  exact atI_nat (by simp [hj])
theorem x_ixI (h : SqL K H p (ns.map V.int)) (q : Q (.int (ns.getD n.toNat 0)) H) (h0 : 0 ≤ n) (h1 : n < ns.length) : rIx K (.ref p) (.int n) H Q :=
  .inl ⟨p, _, n, _, rfl, rfl, h, by
    rw [atI_getD (.int 0) h0 (by rw [List.length_map]; exact h1)]
    have hn : n.toNat < ns.length := by omega
    simp [hn], q⟩
theorem x_ixS (h : SqL K H p xs) (ha : atI xs n = some v) (q : Q v H) : rIx K (.ref p) (.int n) H Q := .inl ⟨p, _, n, _, rfl, rfl, h, ha, q⟩
theorem atI_0 {α : Type} {x : α} {xs : List α} : atI (x :: xs) 0 = some x := atI_nat (j := 0) (by simp)
theorem x_ixH (h : SqL K H p (v :: xs)) (q : Q v H) : rIx K (.ref p) (.int 0) H Q := .inl ⟨p, _, 0, _, rfl, rfl, h, atI_0, q⟩
theorem atI_any (n : Nat) (hn : 0 < n) (o : Int) (ho : o = 0 ∨ o = -1) : ∃ i, i < n ∧ ∀ {α : Type} (xs : List α), xs.length = n → atI xs o = xs[i]? := by
  rcases ho with rfl | rfl
  · exact ⟨0, hn, fun xs h => by
      cases xs with
      | nil => simp at h; omega
      | cons x xs => rw [atI_0]; rfl⟩
  · refine ⟨n - 1, by omega, fun xs h => ?_⟩
    unfold atI ixN
    rw [h, if_neg (by decide), if_pos (by omega)]
    show xs[((n : Int) + -1).toNat]? = _
    rw [show ((n : Int) + -1).toNat = n - 1 by omega]
theorem x_ixL (h : SqL K H p xs) (q : Q (xs.getD n.toNat .non) H) (h0 : 0 ≤ n) (h1 : n < xs.length) : rIx K (.ref p) (.int n) H Q :=
  .inl ⟨p, _, n, _, rfl, rfl, h, atI_getD _ h0 h1, q⟩
theorem x_ixT (h : SqT K H p xs) (ha : atI xs n = some v) (q : Q v H) : rIx K (.ref p) (.int n) H Q :=
  .inr (.inl ⟨p, _, n, _, rfl, rfl, h, ha, q⟩)
end

/-! ### data -/
section
variable {X : Cx} {σ : L2.St} {H H' : Hp} {K : PySem.W.Frag} {Q : VK} {x y : V}
theorem cl_all : ∀ ds : List PyData, PyData.canLayAll0 ds = true ↔ ∀ d ∈ ds, PyData.canLay0 d = true
  | [] => by simp [PyData.canLayAll0]
  | d :: ds => by rw [PyData.canLayAll0, Bool.and_eq_true, cl_all ds]; simp
theorem dp_all {k : Nat} : ∀ ds : List PyData, PyData.depthAll ds ≤ k ↔ ∀ d ∈ ds, PyData.depth d ≤ k
  | [] => by simp [PyData.depthAll]
  | d :: ds => by rw [PyData.depthAll, Nat.max_le, dp_all ds]; simp
/-- data of a depth that can be compared -/
def Sh (k : Nat) (d : PyData) : Prop := d.canLay0 = true ∧ d.depth ≤ k
theorem Sh.list {k : Nat} {ds : List PyData} (h : ∀ d ∈ ds, Sh k d) : Sh (k + 1) (.list ds) := ⟨by rw [PyData.canLay0]; exact (cl_all ds).mpr fun d m => (h d m).1, by rw [PyData.depth]; exact Nat.succ_le_succ ((dp_all ds).mpr fun d m => (h d m).2)⟩
theorem Sh.tup {k : Nat} {ds : List PyData} (h : ∀ d ∈ ds, Sh k d) : Sh (k + 1) (.tuple ds) := ⟨by rw [PyData.canLay0]; exact (cl_all ds).mpr fun d m => (h d m).1, by rw [PyData.depth]; exact Nat.succ_le_succ ((dp_all ds).mpr fun d m => (h d m).2)⟩
theorem Sh.int {k : Nat} {n : Int} : Sh k (.int n) := ⟨by simp [PyData.canLay0], by simp [PyData.depth]⟩
theorem Sh.non {k : Nat} : Sh k .none := ⟨by simp [PyData.canLay0], by simp [PyData.depth]⟩
theorem Sh.bl {k : Nat} {b : Bool} : Sh k (.bool b) := ⟨by simp [PyData.canLay0], by simp [PyData.depth]⟩
theorem Sh.str {k : Nat} {s : Str} (h : PyData.strOk s = true) : Sh k (.str s) := ⟨by rw [PyData.canLay0]; exact h, by simp [PyData.depth]⟩
theorem Sh.shaped {k : Nat} {d : PyData} (h : Sh k d) (hk : k ≤ 64) : SeqAt.shaped d = true := by
  unfold SeqAt.shaped
  rw [h.1, decide_eq_true (Nat.le_trans h.2 hk)]
  rfl
theorem Sh.refl {k : Nat} {d : PyData} (h : Sh k d) : PyData.eqv d d = true := SeqAt.eqv_refl d h.1
theorem x_eqD {d e : PyData} (h1 : Dp K H x d) (h2 : Dp K H y e) (s1 : Sh 9 d) (s2 : Sh 9 e) (q : Q (.bl (PyData.eqv d e)) H) : uEq K x y H Q := .inr ⟨d, e, h1, h2, s1.shaped (by decide), s2.shaped (by decide), q⟩
theorem x_neD {d e : PyData} (h1 : Dp K H x d) (h2 : Dp K H y e) (s1 : Sh 9 d) (s2 : Sh 9 e) (q : Q (.bl (!PyData.eqv d e)) H) : uNe K x y H Q := .inr ⟨d, e, h1, h2, s1.shaped (by decide), s2.shaped (by decide), q⟩
/-- the same data -/
theorem x_eqS2 {d : PyData} (h1 : Dp K H x d) (h2 : Dp K H y d) (s1 : Sh 9 d) (q : Q (.bl true) H) : uEq K x y H Q := x_eqD h1 h2 s1 s1 (by rw [s1.refl]; exact q)
theorem x_neS2 {d : PyData} (h1 : Dp K H x d) (h2 : Dp K H y d) (s1 : Sh 9 d) (q : Q (.bl false) H) : uNe K x y H Q := x_neD h1 h2 s1 s1 (by rw [s1.refl]; exact q)
theorem dpAll_of : ∀ {vs : List V} {ds : List PyData}, vs.length = ds.length → (∀ (i : Nat) v d, vs[i]? = some v → ds[i]? = some d → Dp K H v d) → DpAll K H vs ds
  | [], [], _, _ => .nil
  | v :: vs, d :: ds, hl, h => .cons (h 0 v d rfl rfl) (dpAll_of (by simpa using hl) fun i a b h1 h2 => h (i + 1) a b h1 h2)
theorem dpInts : ∀ {ns : List Int}, DpAll K H (ns.map V.int) (ns.map PyData.int)
  | [] => .nil
  | n :: ns => .cons (.int n) dpInts
end
/-! ### loops -/
section
variable {X : Cx} {σ : L2.St} {H : Hp} {K : PySem.W.Frag} {D : Ends} {g : TG} {tb : TS} {tl te : TE} {tt : TT} {ta : TA} {a : Addr} {xs : List V} {Q : VK} {vs : List Nat}
theorem sl_u : SlR X (rSlL X.K) := sl_list
theorem x_slice {to th : TO} {r : V → Option Int → Option Int → Hp → VK → Prop} (h : te σ H fun x H1 => to σ H1 fun l H2 => th σ H2 fun u H3 => r x l u H3 Q) : tSl r te to th σ H Q := h
theorem x_noPart {QO : Option Int → Hp → Prop} (q : QO none H) : tNoPart σ H QO := q
def ptK (QO : Option Int → Hp → Prop) : V → Hp → Prop := fun x H1 => ∃ i, x = .int i ∧ QO (some i) H1
theorem x_part {QO : Option Int → Hp → Prop} (h : te σ H (ptK QO)) : tPart te σ H QO := h
theorem x_ptK {QO : Option Int → Hp → Prop} {i : Int} (q : QO (some i) H) : ptK QO (.int i) H := ⟨i, rfl, q⟩
theorem x_slL {lo hi : Option Int} (h : SqL K H a xs) (q : New H Q (.lst (cutV xs lo hi))) : rSlL K (.ref a) lo hi H Q := ⟨a, xs, rfl, h, q.mk⟩
def loopK (J : It) (g : TG) (tb : TS) (D : Ends) (σ : L2.St) (H1 : Hp) : Prop := ∃ W : Nat → Nat → L2.St → Hp → Prop, (∃ m, W 0 m σ H1) ∧ ∀ i m σ H, W i m σ H →
  (J.stop i H ∧ D.nx σ H) ∨ (J.go i H ∧ ∃ N : L2.St → Hp → Prop, (∀ σ' H', N σ' H' → ∃ m', m' < m ∧ W (i + 1) m' σ' H') ∧ ∀ x H', J.yld i H x H' → g x σ H' fun σ2 H2 => tb { D with nx := N, ct := N, bk := D.nx } σ2 H2)
def frL (K : PySem.W.Frag) (g : TG) (tb : TS) (D : Ends) (σ : L2.St) : V → Hp → Prop := fun x H1 => ∃ a, x = .ref a ∧ (∃ xs, SqL K H1 a xs) ∧ loopK (Itl K a) g tb D σ H1
theorem x_forL (h : tl σ H (frL K g tb D σ)) : tFor (iList K tl) g tb D σ H := h
theorem x_frL (hq : SqL K H a xs) (Pv : Nat → L2.St → Hp → Prop) (h0 : Pv 0 σ H) (hl : ∀ i σ H, i ≤ xs.length → Pv i σ H → SqL K H a xs)
    (hs : ∀ i x σ H, xs[i]? = some x → Pv i σ H → g x σ H fun σ2 H2 => tb { D with nx := Pv (i + 1), ct := Pv (i + 1), bk := D.nx } σ2 H2) (hd : ∀ σ H, Pv xs.length σ H → D.nx σ H) : frL K g tb D σ (.ref a) H :=
  ⟨a, rfl, ⟨_, hq⟩, for_list Pv h0 hl hs hd⟩
def frT (K : PySem.W.Frag) (g : TG) (tb : TS) (D : Ends) (σ : L2.St) : V → Hp → Prop := fun x H1 => ∃ a, x = .ref a ∧ (∃ xs, SqT K H1 a xs) ∧ loopK (Itt K a) g tb D σ H1
theorem x_forT (h : tl σ H (frT K g tb D σ)) : tFor (iTup K tl) g tb D σ H := h
theorem x_frT (hq : SqT K H a xs) (Pv : Nat → L2.St → Hp → Prop) (h0 : Pv 0 σ H) (hl : ∀ i σ H, i ≤ xs.length → Pv i σ H → SqT K H a xs)
    (hs : ∀ i x σ H, xs[i]? = some x → Pv i σ H → g x σ H fun σ2 H2 => tb { D with nx := Pv (i + 1), ct := Pv (i + 1), bk := D.nx } σ2 H2) (hd : ∀ σ H, Pv xs.length σ H → D.nx σ H) : frT K g tb D σ (.ref a) H :=
  ⟨a, rfl, ⟨_, hq⟩, for_tup Pv h0 hl hs hd⟩
/-! a loop over a list or a tuple -/
def SqX (K : PySem.W.Frag) (H : Hp) (a : Addr) (xs : List V) : Prop := SqL K H a xs ∨ SqT K H a xs
def iSeq (K : PySem.W.Frag) (tl : TE) : TI := fun σ H R => tl σ H fun x H1 => ∃ a, x = .ref a ∧ (((∃ xs, SqL K H1 a xs) ∧ R (Itl K a) H1) ∨ ((∃ xs, SqT K H1 a xs) ∧ R (Itt K a) H1))
theorem pi_seq {X : Cx} {tg l : Expr} {tl : TE} (hl : PE X l tl) : PI X tg l (iSeq X.K tl) := by
  refine ⟨fun pins s σ H R I h => thn (hl.run pins s σ H _ I h) fun v s1 ⟨x, H1, I1, r1, a, e, q⟩ => ?_⟩
  subst e; cases r1
  have fp : ∀ b ∈ [s1.heap.objs.size], _ := fun b hb => (List.mem_singleton.mp hb) ▸ I1.fpOk (Nat.le_refl _) (I1.hok.fresh (Nat.le_refl _))
  rcases q with ⟨⟨xs, hq⟩, q⟩ | ⟨⟨xs, hq⟩, q⟩
  · obtain ⟨its, rv, p, hz⟩ := I1.list hq
    exact wpAny_pyIter_list p.isList ⟨s1.heap.objs.size, [s1.heap.objs.size], _, _, H1, rfl, I1.kept (t' := s1.toks) fun b o e => Heap.get?_push_of_some _ e, turn_list a _, ⟨_, Heap.get?_push_size _ rfl, rfl, rfl⟩, fp, q⟩
  · obtain ⟨its, rv, p, hz⟩ := I1.tuple hq
    exact wpAny_pyIter_tuple (show s1.heap.IsTuple a its.toArray from p) ⟨s1.heap.objs.size, [s1.heap.objs.size], _, _, H1, rfl, I1.kept (t' := s1.toks) fun b o e => Heap.get?_push_of_some _ e, turn_tuple a _, ⟨_, Heap.get?_push_size _ rfl, rfl, rfl⟩, fp, q⟩
def frS (K : PySem.W.Frag) (g : TG) (tb : TS) (D : Ends) (σ : L2.St) : V → Hp → Prop := fun x H1 => ∃ a, x = .ref a ∧ (((∃ xs, SqL K H1 a xs) ∧ loopK (Itl K a) g tb D σ H1) ∨ ((∃ xs, SqT K H1 a xs) ∧ loopK (Itt K a) g tb D σ H1))
theorem x_forS (h : tl σ H (frS K g tb D σ)) : tFor (iSeq K tl) g tb D σ H := h
/-- a list (k) or a tuple -/
def SqB (k : Bool) (K : PySem.W.Frag) (H : Hp) (a : Addr) (xs : List V) : Prop := if k = true then SqL K H a xs else SqT K H a xs
theorem sqB_of (h : H a = some (.lst xs) ∨ H a = some (.tup xs)) : ∃ k, ∀ H', Same H H' → SqB k K H' a xs := by
  rcases h with h | h
  · exact ⟨true, fun H' s => SqL.of (s _ _ h)⟩
  · exact ⟨false, fun H' s => SqT.of (s _ _ h)⟩
theorem x_frS {k : Bool} (hq : SqB k K H a xs) (Pv : Nat → L2.St → Hp → Prop) (h0 : Pv 0 σ H) (hl : ∀ i σ' H', i ≤ xs.length → Pv i σ' H' → SqB k K H' a xs)
    (hs : ∀ i x σ H, xs[i]? = some x → Pv i σ H → g x σ H fun σ2 H2 => tb { D with nx := Pv (i + 1), ct := Pv (i + 1), bk := D.nx } σ2 H2) (hd : ∀ σ H, Pv xs.length σ H → D.nx σ H) : frS K g tb D σ (.ref a) H := by
  cases k with
  | true => exact ⟨a, rfl, .inl ⟨⟨_, hq⟩, for_list Pv h0 hl hs hd⟩⟩
  | false => exact ⟨a, rfl, .inr ⟨⟨_, hq⟩, for_tup Pv h0 hl hs hd⟩⟩
def frR1 (g : TG) (tb : TS) (D : Ends) (σ : L2.St) : List V → Hp → Prop := fun vs H1 => ∃ j : Int, vs = [.int j] ∧ -(2 ^ 62) ≤ j ∧ j < 2 ^ 62 ∧ loopK (Itr 0 j.toNat) g tb D σ H1
theorem x_forR1 (h : ta σ H (frR1 g tb D σ)) : tFor (iRng1 ta) g tb D σ H := h
theorem x_frR1 {j : Int} (b : -(2 ^ 62) ≤ j ∧ j < 2 ^ 62) (Pv : Nat → L2.St → Hp → Prop) (h0 : Pv 0 σ H)
    (hs : ∀ i σ H, i < j.toNat → Pv i σ H → g (.int (0 + i)) σ H fun σ2 H2 => tb { D with nx := Pv (i + 1), ct := Pv (i + 1), bk := D.nx } σ2 H2) (hd : ∀ σ H, Pv j.toNat σ H → D.nx σ H) : frR1 g tb D σ [.int j] H :=
  ⟨j, rfl, b.1, b.2, for_range Pv h0 hs hd⟩
def frR2 (g : TG) (tb : TS) (D : Ends) (σ : L2.St) : List V → Hp → Prop := fun vs H1 => ∃ i j : Int, vs = [.int i, .int j] ∧ (-(2 ^ 62) ≤ i ∧ i < 2 ^ 62 ∧ -(2 ^ 62) ≤ j ∧ j < 2 ^ 62) ∧ loopK (Itr i (j - i).toNat) g tb D σ H1
theorem x_forR2 (h : ta σ H (frR2 g tb D σ)) : tFor (iRng2 ta) g tb D σ H := h
theorem x_frR2 {lo j : Int} (b : -(2 ^ 62) ≤ lo ∧ lo < 2 ^ 62 ∧ -(2 ^ 62) ≤ j ∧ j < 2 ^ 62) (Pv : Nat → L2.St → Hp → Prop) (h0 : Pv 0 σ H)
    (hs : ∀ i σ H, i < (j - lo).toNat → Pv i σ H → g (.int (lo + i)) σ H fun σ2 H2 => tb { D with nx := Pv (i + 1), ct := Pv (i + 1), bk := D.nx } σ2 H2) (hd : ∀ σ H, Pv (j - lo).toNat σ H → D.nx σ H) : frR2 g tb D σ [.int lo, .int j] H :=
  ⟨lo, j, rfl, b, for_range Pv h0 hs hd⟩
theorem x_gtup2 {i j : Nat} {QS : L2.St → Hp → Prop} {x y : V} (h : SqT K H a [x, y]) (q : QS ((σ.set i (some x)).set j (some y)) H) : gTup K 2 (gCons (gName i) (gCons (gName j) gNil)) (.ref a) σ H QS :=
  ⟨a, [x, y], rfl, h, rfl, x, [y], rfl, y, [], rfl, rfl, q⟩
theorem x_gtup3 {i j k : Nat} {QS : L2.St → Hp → Prop} {x y z : V} (h : SqT K H a [x, y, z]) (q : QS (((σ.set i (some x)).set j (some y)).set k (some z)) H) : gTup K 3 (gCons (gName i) (gCons (gName j) (gCons (gName k) gNil))) (.ref a) σ H QS :=
  ⟨a, [x, y, z], rfl, h, rfl, x, [y, z], rfl, y, [z], rfl, z, [], rfl, rfl, q⟩
def frEn (K : PySem.W.Frag) (g : TG) (tb : TS) (D : Ends) (σ : L2.St) : List V → Hp → Prop := fun vs H1 => ∃ a xs, vs = [.ref a] ∧ SqL K H1 a xs ∧ loopK (Ite K a) g tb D σ H1
theorem x_forEn (h : ta σ H (frEn K g tb D σ)) : tFor (iEnum K ta) g tb D σ H := h
theorem x_frEn {n1 n2 : Nat} (hq : SqL K H a xs) (Pv : Nat → L2.St → Hp → Prop) (h0 : Pv 0 σ H) (hl : ∀ i σ H, i ≤ xs.length → Pv i σ H → SqL K H a xs)
    (hs : ∀ i x σ H H', xs[i]? = some x → Pv i σ H → Same H H' → tb { D with nx := Pv (i + 1), ct := Pv (i + 1), bk := D.nx } ((σ.set n1 (some (.int (i : Nat)))).set n2 (some x)) H') (hd : ∀ σ H, Pv xs.length σ H → D.nx σ H) :
    frEn K (gTup K 2 (gCons (gName n1) (gCons (gName n2) gNil))) tb D σ [.ref a] H := by
  refine ⟨a, xs, rfl, hq, fun i m σ H => m = xs.length - i ∧ i ≤ xs.length ∧ Pv i σ H, ⟨xs.length, rfl, Nat.zero_le _, h0⟩, ?_⟩
  rintro i m σ H ⟨rfl, hi, p⟩
  have q := hl i σ H hi p
  by_cases hlt : i < xs.length
  · refine .inr ⟨⟨xs, _, q, List.getElem?_eq_getElem hlt⟩, Pv (i + 1), fun σ' H' p' => ⟨xs.length - (i + 1), by omega, rfl, hlt, p'⟩, fun v H' y => ?_⟩
    obtain ⟨T, x, rfl, hT, rfl, f1⟩ := y
    exact x_gtup2 (SqT.of upd_same) (hs i x σ H _ (f1 xs q) p (same_upd hT))
  · have e : i = xs.length := by omega
    subst e
    exact .inl ⟨⟨xs, q, Nat.le_refl _⟩, hd σ H p⟩
def frZ (K : PySem.W.Frag) (g : TG) (tb : TS) (D : Ends) (σ : L2.St) : List V → Hp → Prop := fun vs H1 => ∃ a b xs ys, vs = [.ref a, .ref b] ∧ SqL K H1 a xs ∧ SqL K H1 b ys ∧ loopK (Itz K a b) g tb D σ H1
theorem x_forZ (h : ta σ H (frZ K g tb D σ)) : tFor (iZip K ta) g tb D σ H := h
theorem x_frZ {n1 n2 : Nat} {b : Addr} {ys : List V} (hq : SqL K H a xs) (hq2 : SqL K H b ys) (hxy : xs.length = ys.length) (Pv : Nat → L2.St → Hp → Prop) (h0 : Pv 0 σ H) (hl : ∀ i σ H, Pv i σ H → SqL K H a xs ∧ SqL K H b ys)
    (hs : ∀ i x y σ H H', xs[i]? = some x → ys[i]? = some y → Pv i σ H → Same H H' → tb { D with nx := Pv (i + 1), ct := Pv (i + 1), bk := D.nx } ((σ.set n1 (some x)).set n2 (some y)) H') (hd : ∀ σ H, Pv xs.length σ H → D.nx σ H) :
    frZ K (gTup K 2 (gCons (gName n1) (gCons (gName n2) gNil))) tb D σ [.ref a, .ref b] H := by
  refine ⟨a, b, xs, ys, rfl, hq, hq2, fun i m σ H => m = xs.length - i ∧ i ≤ xs.length ∧ Pv i σ H, ⟨xs.length, rfl, Nat.zero_le _, h0⟩, ?_⟩
  rintro i m σ H ⟨rfl, hi, p⟩
  obtain ⟨qx, qy⟩ := hl i σ H p
  by_cases hlt : i < xs.length
  · refine .inr ⟨⟨xs, ys, _, _, qx, qy, List.getElem?_eq_getElem hlt, List.getElem?_eq_getElem (by omega)⟩, Pv (i + 1), fun σ' H' p' => ⟨xs.length - (i + 1), by omega, rfl, hlt, p'⟩, fun v H' y => ?_⟩
    obtain ⟨T, x', y', rfl, hT, rfl, f1, f2⟩ := y
    exact x_gtup2 (SqT.of upd_same) (hs i x' y' σ H _ (f1 xs qx) (f2 ys qy) p (same_upd hT))
  · have e : i = xs.length := by omega
    subst e
    exact .inl ⟨⟨xs, ys, qx, qy, Or.inl (Nat.le_refl _)⟩, hd σ H p⟩
/-! comprehensions -/
/-- tuples stay -/
def TupS (H H' : Hp) : Prop := ∀ a xs, H a = some (.tup xs) → H' a = some (.tup xs)
theorem TupS.of {H H' : Hp} (h : Same H H') : TupS H H' := fun a xs e => h a _ e
theorem TupS.trans {H H1 H2 : Hp} (a : TupS H H1) (b : TupS H1 H2) : TupS H H2 := fun c o h => b c o (a c o h)
theorem TupS.upd {H : Hp} {p : Addr} {o o' : HO} (h : H p = some o) (ho : ∀ xs, o ≠ .tup xs) : TupS H (upd H p o') := fun a xs e => by
  rw [upd_ne (ne_of e h (fun z => ho xs z.symm))]; exact e
def lcK (J : It) (g : TG) (tt : TT) (te : TE) (vs : List Nat) (σ : L2.St) (Q : VK) (H1 : Hp) : Prop := ∀ D, H1 D = none → ∃ W : Nat → Nat → Hp → Prop, (∃ m, W 0 m (upd H1 D (.lst []))) ∧ ∀ i m H, W i m H →
  (J.stop i H ∧ Q (.ref D) H) ∨ (J.go i H ∧ ∃ Nx : Hp → Prop, (∀ H', Nx H' → ∃ m', m' < m ∧ W (i + 1) m' H') ∧ ∀ x H', J.yld i H x H' → g x (wipe σ vs) H' fun σ2 H2 => wipe σ2 vs = wipe σ vs ∧ tt σ2 H2 fun b H3 =>
    if b = true then te σ2 H3 fun y H4 => ∃ acc, H4 D = some (.lst acc) ∧ acc.length < sizeLine ∧ Nx (upd H4 D (.lst (acc ++ [y]))) else Nx H3)
def lcL (K : PySem.W.Frag) (g : TG) (tt : TT) (te : TE) (vs : List Nat) (σ : L2.St) (Q : VK) : V → Hp → Prop := fun x H1 => ∃ a, x = .ref a ∧ (∃ xs, SqL K H1 a xs) ∧ lcK (Itl K a) g tt te vs σ Q H1
theorem x_lcL (h : tl σ H (lcL K g tt te vs σ Q)) : tLc (iList K tl) g tt te vs σ H Q := h
/-- what a turn of a comprehension asks -/
def LcTurn (g : TG) (tt : TT) (te : TE) (vs : List Nat) (σ : L2.St) (A : Nat → List V → Hp → Prop) (i : Nat) (x : V) (acc : List V) (H' : Hp) : Prop :=
  ∀ (NY : VK) (NN : Hp → Prop), (∀ y H4, Same H' H4 → A (i + 1) (acc ++ [y]) H4 → NY y H4) → (∀ H3, Same H' H3 → A (i + 1) acc H3 → NN H3) →
    g x (wipe σ vs) H' fun σ2 H2 => wipe σ2 vs = wipe σ vs ∧ tt σ2 H2 fun b H3 => if b = true then te σ2 H3 NY else NN H3
theorem lc_gen {n : Nat} {J : It} (Y : Nat → V → Prop) (A : Nat → List V → Hp → Prop) (hA : ∀ i acc H H', TupS H H' → A i acc H → A i acc H') (hn : n < sizeLine) (h0 : A 0 [] H)
    (hJ : ∀ (Pv : Nat → Hp → Prop) (Dr : Addr), (∀ i H', Pv i H' → Same H H') → Pv 0 (upd H Dr (.lst [])) →
      (∀ i x H', Y i x → Pv i H' → g x (wipe σ vs) H' fun σ2 H2 => wipe σ2 vs = wipe σ vs ∧ tt σ2 H2 fun b H3 =>
        if b = true then te σ2 H3 fun y H4 => ∃ acc, H4 Dr = some (.lst acc) ∧ acc.length < sizeLine ∧ Pv (i + 1) (upd H4 Dr (.lst (acc ++ [y]))) else Pv (i + 1) H3) →
      (∀ H', Pv n H' → Q (.ref Dr) H') → ∃ W : Nat → Nat → Hp → Prop, (∃ m, W 0 m (upd H Dr (.lst []))) ∧ ∀ i m H, W i m H →
        (J.stop i H ∧ Q (.ref Dr) H) ∨ (J.go i H ∧ ∃ Nx : Hp → Prop, (∀ H', Nx H' → ∃ m', m' < m ∧ W (i + 1) m' H') ∧ ∀ x H', J.yld i H x H' → g x (wipe σ vs) H' fun σ2 H2 => wipe σ2 vs = wipe σ vs ∧ tt σ2 H2 fun b H3 =>
          if b = true then te σ2 H3 fun y H4 => ∃ acc, H4 Dr = some (.lst acc) ∧ acc.length < sizeLine ∧ Nx (upd H4 Dr (.lst (acc ++ [y]))) else Nx H3))
    (hs : ∀ i x acc H', Y i x → Same H H' → A i acc H' → LcTurn g tt te vs σ A i x acc H')
    (hY : ∀ i x, Y i x → i < n) (hd : ∀ p acc H', H p = none → Same H H' → H' p = some (.lst acc) → A n acc H' → Q (.ref p) H') : lcK J g tt te vs σ Q H := by
  intro Dr hD
  refine hJ (fun i H' => ∃ acc, H' Dr = some (.lst acc) ∧ acc.length ≤ i ∧ Same H H' ∧ A i acc H') Dr (fun i H' ⟨_, _, _, s, _⟩ => s) ⟨[], upd_same, Nat.le_refl _, same_upd hD, hA _ _ _ _ (TupS.of (same_upd hD)) h0⟩ ?_ ?_
  · rintro i x H' hy ⟨acc, h1, h2, h3, h4⟩
    have hi := hY i x hy
    refine hs i x acc H' hy h3 h4 _ _ (fun y H4 s4 a4 => ?_) (fun H3 s3 a3 => ⟨acc, s3 _ _ h1, Nat.le_succ_of_le h2, h3.trans s3, a3⟩)
    have e4 := s4 _ _ h1
    refine ⟨acc, e4, by omega, acc ++ [y], upd_same, by rw [List.length_append]; exact Nat.add_le_add h2 (Nat.le_refl _), fun b o e => ?_, hA _ _ _ _ (TupS.upd e4 (fun _ z => by cases z)) a4⟩
    rw [upd_ne (ne_of_none e hD)]
    exact s4 _ _ (h3 _ _ e)
  · rintro H' ⟨acc, h1, h2, h3, h4⟩
    exact hd Dr acc H' hD h3 h1 h4
theorem x_lcLK (hq : SqL K H a xs) (A : Nat → List V → Hp → Prop) (hA : ∀ i acc H H', TupS H H' → A i acc H → A i acc H') (hn : xs.length < sizeLine) (h0 : A 0 [] H)
    (hs : ∀ i x acc H', xs[i]? = some x → Same H H' → A i acc H' → LcTurn g tt te vs σ A i x acc H')
    (hd : ∀ p acc H', H p = none → Same H H' → H' p = some (.lst acc) → A xs.length acc H' → Q (.ref p) H') : lcL K g tt te vs σ Q (.ref a) H :=
  ⟨a, rfl, ⟨_, hq⟩, lc_gen (fun i x => xs[i]? = some x) A hA hn h0 (fun Pv Dr hP p0 ht hd => lc_list (K := K) (a := a) (xs := xs) Pv p0 (fun i H' _ p => (hP i H' p).seq hq) ht hd) hs (fun i x h => (List.getElem?_eq_some_iff.mp h).1) hd⟩
def lcR1 (g : TG) (tt : TT) (te : TE) (vs : List Nat) (σ : L2.St) (Q : VK) : List V → Hp → Prop := fun ws H1 => ∃ j : Int, ws = [.int j] ∧ -(2 ^ 62) ≤ j ∧ j < 2 ^ 62 ∧ lcK (Itr 0 j.toNat) g tt te vs σ Q H1
theorem x_lcR1 (h : ta σ H (lcR1 g tt te vs σ Q)) : tLc (iRng1 ta) g tt te vs σ H Q := h
theorem x_lcR1K {j : Int} (A : Nat → List V → Hp → Prop) (hA : ∀ i acc H H', TupS H H' → A i acc H → A i acc H') (hn : 0 ≤ j ∧ j < 1000000) (h0 : A 0 [] H)
    (hs : ∀ i acc H', i < j.toNat → Same H H' → A i acc H' → LcTurn g tt te vs σ A i (.int i) acc H')
    (hd : ∀ p acc H', H p = none → Same H H' → H' p = some (.lst acc) → A j.toNat acc H' → Q (.ref p) H') : lcR1 g tt te vs σ Q [.int j] H :=
  ⟨j, rfl, by omega, by omega, lc_gen (fun i x => i < j.toNat ∧ x = .int i) A hA (Nat.lt_of_lt_of_le (by omega : j.toNat < 1000000) (by decide)) h0
    (fun Pv Dr hP p0 ht hd => lc_range Pv p0 (fun i H' hi p => ht i _ H' ⟨hi, by rw [Int.zero_add]⟩ p) hd) (fun i x acc H' h s a => by rw [h.2]; exact hs i acc H' h.1 s a) (fun i x h => h.1) hd⟩
def lcR2 (g : TG) (tt : TT) (te : TE) (vs : List Nat) (σ : L2.St) (Q : VK) : List V → Hp → Prop := fun ws H1 => ∃ i j : Int, ws = [.int i, .int j] ∧ (-(2 ^ 62) ≤ i ∧ i < 2 ^ 62 ∧ -(2 ^ 62) ≤ j ∧ j < 2 ^ 62) ∧ lcK (Itr i (j - i).toNat) g tt te vs σ Q H1
theorem x_lcR2 (h : ta σ H (lcR2 g tt te vs σ Q)) : tLc (iRng2 ta) g tt te vs σ H Q := h
theorem x_lcR2K {lo j : Int} (A : Nat → List V → Hp → Prop) (hA : ∀ i acc H H', TupS H H' → A i acc H → A i acc H') (hn : -1000000 ≤ lo ∧ lo ≤ j ∧ j < 1000000) (h0 : A 0 [] H)
    (hs : ∀ i acc H', i < (j - lo).toNat → Same H H' → A i acc H' → LcTurn g tt te vs σ A i (.int (lo + i)) acc H')
    (hd : ∀ p acc H', H p = none → Same H H' → H' p = some (.lst acc) → A (j - lo).toNat acc H' → Q (.ref p) H') : lcR2 g tt te vs σ Q [.int lo, .int j] H :=
  ⟨lo, j, rfl, ⟨by omega, by omega, by omega, by omega⟩, lc_gen (fun i x => i < (j - lo).toNat ∧ x = .int (lo + i)) A hA (Nat.lt_of_lt_of_le (by omega : (j - lo).toNat < 2000001) (by decide)) h0
    (fun Pv Dr hP p0 ht hd => lc_range Pv p0 (fun i H' hi p => ht i _ H' ⟨hi, rfl⟩ p) hd) (fun i x acc H' h s a => by rw [h.2]; exact hs i acc H' h.1 s a) (fun i x h => h.1) hd⟩
theorem x_yes {QB : Bool → Hp → Prop} (q : QB true H) : tYes σ H QB := q
/-! methods of built-in types -/
def bmK (K : PySem.W.Frag) (T : String) (r : V → List V → Hp → VK → Prop) (t : TA) (σ : L2.St) (Q : VK) : V → Hp → Prop := fun x H1 => tyV K T x H1 ∧ t σ H1 fun xs H2 => r x xs H2 Q
theorem x_bm {T : String} {r : V → List V → Hp → VK → Prop} {t : TA} (h : te σ H (bmK K T r t σ Q)) : tBM K T r te t σ H Q := h
theorem x_bmL {r : V → List V → Hp → VK → Prop} {t : TA} (hq : SqL K H a xs) (h : t σ H fun ws H2 => r (.ref a) ws H2 Q) : bmK K "list" r t σ Q (.ref a) H := ⟨.inl ⟨rfl, _, hq⟩, h⟩
def bm0K (K : PySem.W.Frag) (T : String) (r : V → List V → Hp → VK → Prop) (Q : VK) : V → Hp → Prop := fun x H1 => tyV K T x H1 ∧ r x [] H1 Q
theorem x_bm0 {T : String} {r : V → List V → Hp → VK → Prop} (h : te σ H (bm0K K T r Q)) : tBM0 K T r te σ H Q := h
theorem x_bm0L {r : V → List V → Hp → VK → Prop} (hq : SqL K H a xs) (h : r (.ref a) [] H Q) : bm0K K "list" r Q (.ref a) H := ⟨.inl ⟨rfl, _, hq⟩, h⟩
theorem x_append {y : V} (h : H a = some (.lst xs)) (q : Q .non (upd H a (.lst (xs ++ [y])))) (hl : xs.length < sizeLine) : rAppend (.ref a) [y] H Q := ⟨a, xs, y, rfl, rfl, h, hl, q⟩
theorem x_clear (h : H a = some (.lst xs)) (q : Q .non (upd H a (.lst []))) : rClear (.ref a) [] H Q := ⟨a, xs, rfl, rfl, h, q⟩
/-! objects -/
theorem x_mk0 {C : Addr} (h : ∀ x dx H1, H x = none → H dx = none → dx ≠ x → Same H H1 → H1 x = some (.ins C dx []) → H1 dx = some (.own x) → Q (.ref x) H1) : tMake0 C σ H Q := fun x dx n nd ne =>
  h x dx _ n nd ne ((same_upd nd).trans (same_upd (by rw [upd_ne (Ne.symm ne)]; exact n))) upd_same (by rw [upd_ne ne, upd_same])
def mkK (C : Addr) (sp : Sp) (dvs : List V) (Q : VK) (E : XK) : List V → Hp → Prop := fun vs H1 => ∀ x dx, H1 x = none → H1 dx = none → dx ≠ x →
  sp (.ref x :: (vs ++ dvs)) (upd (upd H1 dx (.own x)) x (.ins C dx [])) (fun v H2 => v = .non ∧ Q (.ref x) H2) E
theorem x_mkS {C : Addr} {sp : Sp} {dvs : List V} {E : L2.St → XK} {t : TA} (h : t σ H (mkK C sp dvs Q (E σ))) : tMakeS C sp dvs E t σ H Q := h
theorem x_mkK {C : Addr} {sp : Sp} {dvs ws : List V} {E : XK} (h : ∀ x dx H1, H x = none → H dx = none → dx ≠ x → Same H H1 → H1 x = some (.ins C dx []) → H1 dx = some (.own x) → sp (.ref x :: (ws ++ dvs)) H1 (fun v H2 => v = .non ∧ Q (.ref x) H2) E) :
    mkK C sp dvs Q E ws H := fun x dx n nd ne => h x dx _ n nd ne ((same_upd nd).trans (same_upd (by rw [upd_ne (Ne.symm ne)]; exact n))) upd_same (by rw [upd_ne ne, upd_same])
theorem x_methD {P : Program} {w : World} {mg : Str → Option Value} {base : Heap} {CX : CXT} {n : Nat} {m : Str} {E : L2.St → XK} {t : TA} (h : te σ H (mtK P w K mg base CX n m (E σ) σ t Q)) : tMethD P w K mg base CX n m E te t σ H Q := h
theorem x_mtK {P : Program} {w : World} {mg : Str → Option Value} {base : Heap} {CX : CXT} {n : Nat} {m : Str} {E : XK} {t : TA} {C dx : Addr} {fs : List (Str × V)} {sp : Sp} (ho : H a = some (.ins C dx fs)) (hm : MO P w K mg base CX n C m sp) (hl : fs.lookup m = none)
    (h : t σ H fun vs H2 => sp (.ref a :: vs) H2 Q E) : mtK P w K mg base CX n m E σ t Q (.ref a) H := ⟨a, C, dx, fs, sp, rfl, ho, hl, hm, h⟩
def fldK (K : PySem.W.Frag) (f : Str) (Q : VK) : V → Hp → Prop := fun x H1 => ∃ a C dx fs v, x = .ref a ∧ H1 a = some (.ins C dx fs) ∧ Cls K C ∧ NoAttr K C f ∧ fs.lookup f = some v ∧ Q v H1
theorem x_fld {f : Str} (h : te σ H (fldK K f Q)) : tFld K te f σ H Q := h
theorem x_fldK {f : Str} {C dx : Addr} {fs : List (Str × V)} {v : V} (ho : H a = some (.ins C dx fs)) (hl : fs.lookup f = some v) (q : Q v H) (hc : Cls K C) (hn : NoAttr K C f) : fldK K f Q (.ref a) H := ⟨a, C, dx, fs, v, rfl, ho, hc, hn, hl, q⟩
def sfK (K : PySem.W.Frag) (f : Str) (y : V) (D : Ends) (σ : L2.St) : V → Hp → Prop := fun x H2 => ∃ a C dx fs, x = .ref a ∧ H2 a = some (.ins C dx fs) ∧ Cls K C ∧ NoAttr K C f ∧ fs.length < 1000 ∧ D.nx σ (upd H2 a (.ins C dx (putF f y fs)))
theorem x_sfld {f : Str} (h : te σ H fun y H1 => tl σ H1 (sfK K f y D σ)) : sFld K tl te f D σ H := h
theorem x_sfK {f : Str} {C dx : Addr} {fs fs' : List (Str × V)} {y : V} (ho : H a = some (.ins C dx fs)) (hf : putF f y fs = fs') (q : D.nx σ (upd H a (.ins C dx fs'))) (hc : Cls K C) (hn : NoAttr K C f) (hl : fs.length < 1000) : sfK K f y D σ (.ref a) H :=
  ⟨a, C, dx, fs, rfl, ho, hc, hn, hl, by rw [hf]; exact q⟩
end
theorem _root_.L2.FunD.okX {P : Program} {w : World} {K : PySem.W.Frag} {mg : Str → Option Value} {base : Heap} {x qual : Str} {st : Stmt} {f : Addr} {fd : FuncData} {dvs : List V} {kws : List (Str × V)} {N ps : List Str} {k : Nat} {sp : Sp}
    (F : FunD K x qual (defArgs st) (defBody st) (defScope st) dvs kws f fd) (S : FnScope N ps (defScope st)) (len : ∀ vs H Q E, sp vs H Q E → vs.length = ps.length)
    (hbody : ∀ (cdv : Value) (A : Around) (outer : List Env) (s : Shared) (H : Hp) (vs : List V) (Q : VK) (E : XK), Room k (A.deeper (envOfC qual (defScope st) s.heap.objs.size f cdv)) → sp vs H Q E →
      ∃ t, PSs (cxOf (L2.CX P w) P w K mg base N qual (defScope st) f cdv A outer s H E) (defBody st) t ∧ t { nx := fun _ H' => Q .non H', rt := Q } (start N vs) H) : FnOk P w K mg base (L2.CX P w) (k + 1) f fd ps sp := F.ok S len hbody
/-! ### fields added to, while, is, in -/
section
variable {σ : L2.St} {H : Hp} {K : PySem.W.Frag} {D : Ends} {ta tv te : TE} {tb : TS} {tc : TT} {a : Addr} {Q : VK} {x y : V} {f : Str} {rd : V → V → Hp → VK → Prop}
/-- all but what stands at S stays -/
def Off (S : List Addr) (H H' : Hp) : Prop := ∀ b o, b ∉ S → H b = some o → H' b = some o
theorem Off.refl {S : List Addr} : Off S H H := fun _ _ _ h => h
theorem Off.of {S : List Addr} {H' : Hp} (s : Same H H') : Off S H H' := fun b o _ h => s b o h
theorem Off.trans {S : List Addr} {H1 H2 : Hp} (h1 : Off S H H1) (h2 : Off S H1 H2) : Off S H H2 := fun b o n h => h2 b o n (h1 b o n h)
theorem Off.sub {S S' : List Addr} {H' : Hp} (h : Off S H H') (hs : ∀ b, b ∈ S → b ∈ S') : Off S' H H' := fun b o n e => h b o (fun m => n (hs b m)) e
theorem Off.same {S : List Addr} {H1 H2 : Hp} (s : Same H H1) (h : Off S H1 H2) (n : ∀ b, b ∈ S → H b = none) : Same H H2 := fun b o e => h b o (fun m => by rw [n b m] at e; cases e) (s b o e)
theorem same_none {H' : Hp} {b : Addr} (s : Same H H') (h : H' b = none) : H b = none := by
  cases e : H b with
  | none => rfl
  | some o => rw [s _ _ e] at h; cases h
theorem Off.same1 {H1 H2 : Hp} (s : Same H H1) (h : Off [a] H1 H2) (n : H a = none) : Same H H2 := h.same s fun b hb => by rw [List.mem_singleton] at hb; rw [hb]; exact n
theorem Off.at {S : List Addr} {H1 : Hp} {b : Addr} {o : HO} (h : Off S H H1) (e : H b = some o) (n : b ∉ S) : H1 b = some o := h b o n e
theorem Off.upd {S : List Addr} {o : HO} (h : a ∈ S) : Off S H (upd H a o) := fun b u n e => by
  rw [upd_ne (fun z => n (by rw [z]; exact h))]; exact e
theorem Off.lst {r : Addr} {H H' : Hp} {C dx : Addr} {fs : List (Str × V)} {a : Addr} {xs : List V} (s : Off [r] H H') (hr : H r = some (.ins C dx fs)) (h : H a = some (.lst xs)) : H' a = some (.lst xs) := s a _ (fun m => by
  rw [List.mem_singleton] at m; subst m; rw [hr] at h; cases h) h
theorem Off.tup {r : Addr} {H H' : Hp} {C dx : Addr} {fs : List (Str × V)} {a : Addr} {xs : List V} (s : Off [r] H H') (hr : H r = some (.ins C dx fs)) (h : H a = some (.tup xs)) : H' a = some (.tup xs) := s a _ (fun m => by
  rw [List.mem_singleton] at m; subst m; rw [hr] at h; cases h) h
theorem Off.ins {r : Addr} {H H' : Hp} {a : Addr} {o : HO} (s : Off [r] H H') (hne : a ≠ r) (h : H a = some o) : H' a = some o := s a _ (fun m => hne (List.mem_singleton.mp m)) h
theorem Off.tups {r : Addr} {H H' : Hp} {C dx : Addr} {fs : List (Str × V)} (s : Off [r] H H') (hr : H r = some (.ins C dx fs)) : TupS H H' := fun a xs h => s.tup hr h
def f3K (a C : Addr) (f : Str) (D : Ends) (σ : L2.St) : VK := fun z H3 => ∃ dx' fs', H3 a = some (.ins C dx' fs') ∧ fs'.length < 1000 ∧ D.nx σ (upd H3 a (.ins C dx' (putF f z fs')))
def faK (K : PySem.W.Frag) (tv : TE) (rd : V → V → Hp → VK → Prop) (f : Str) (D : Ends) (σ : L2.St) : V → Hp → Prop := fun x H1 => ∃ a C dx fs v, x = .ref a ∧ H1 a = some (.ins C dx fs) ∧ Cls K C ∧ NoAttr K C f ∧ fs.lookup f = some v ∧
  tv σ H1 fun y H2 => rd v y H2 (f3K a C f D σ)
theorem x_fldAug (h : ta σ H (faK K tv rd f D σ)) : sFldAug K ta tv rd f D σ H := h
theorem x_faK {C dx : Addr} {fs : List (Str × V)} {v : V} (ho : H a = some (.ins C dx fs)) (hl : fs.lookup f = some v) (q : tv σ H fun y H2 => rd v y H2 (f3K a C f D σ)) (hc : Cls K C) (hn : NoAttr K C f) : faK K tv rd f D σ (.ref a) H := ⟨a, C, dx, fs, v, rfl, ho, hc, hn, hl, q⟩
theorem x_f3K {C dx : Addr} {fs fs' : List (Str × V)} {z : V} (ho : H a = some (.ins C dx fs)) (hf : putF f z fs = fs') (q : D.nx σ (upd H a (.ins C dx fs'))) (hl : fs.length < 1000) : f3K a C f D σ z H := ⟨dx, fs, ho, hl, by rw [hf]; exact q⟩
theorem putF_new {f : Str} {y : V} : ∀ {fs : List (Str × V)}, fs.lookup f = none → putF f y fs = fs ++ [(f, y)]
  | [], _ => rfl
  | (g, x) :: r, h => by
    rw [List.lookup_cons] at h
    by_cases e : f = g
    · subst e; simp at h
    · rw [show (f == g) = false from beq_eq_false_iff_ne.mpr e] at h
      show (if g = f then _ else _) = _
      rw [if_neg (Ne.symm e), putF_new h]
      rfl
/-- self.f = y, f new -/
theorem x_sfN {C dx : Addr} {fs : List (Str × V)} (ho : H a = some (.ins C dx fs)) (hf : fs.lookup f = none) (q : ∀ H1, Off [a] H H1 → H1 a = some (.ins C dx (fs ++ [(f, y)])) → D.nx σ H1) (hc : Cls K C) (hn : NoAttr K C f) (hl : fs.length < 1000) : sfK K f y D σ (.ref a) H :=
  ⟨a, C, dx, fs, rfl, ho, hc, hn, hl, by rw [putF_new hf]; exact q _ (Off.upd (List.mem_singleton.mpr rfl)) upd_same⟩
/-- self.f = y, f there -/
theorem x_sfO {C dx : Addr} {fs fs' : List (Str × V)} (ho : H a = some (.ins C dx fs)) (hf : putF f y fs = fs') (q : ∀ H1, Off [a] H H1 → H1 a = some (.ins C dx fs') → D.nx σ H1) (hc : Cls K C) (hn : NoAttr K C f) (hl : fs.length < 1000) : sfK K f y D σ (.ref a) H :=
  ⟨a, C, dx, fs, rfl, ho, hc, hn, hl, by rw [hf]; exact q _ (Off.upd (List.mem_singleton.mpr rfl)) upd_same⟩
theorem x_gsub {to ti : TE} {t : TSet} {v : V} {QS : L2.St → Hp → Prop} (h : to σ H fun o H1 => ti σ H1 fun i H2 => t o i v H2 fun H3 => QS σ H3) : gSub to ti t v σ H QS := h
theorem x_setL {xs : List V} {k : Int} {v : V} {QS : Hp → Prop} (hp : H a = some (.lst xs)) (q : ∀ H1, Off [a] H H1 → H1 a = some (.lst (xs.set k.toNat v)) → QS H1) (h0 : 0 ≤ k) (h1 : k < xs.length) : rSetL (.ref a) (.int k) v H QS :=
  ⟨a, xs, k, k.toNat, rfl, rfl, hp, by unfold ixN; rw [if_pos h0, if_pos h1], q _ (Off.upd (List.mem_singleton.mpr rfl)) upd_same⟩
/-- xs[i] of an augmented store -/
def rGetL (K : PySem.W.Frag) : V → V → Hp → VK → Prop := fun o i H Q => ∃ p xs k v, o = .ref p ∧ i = .int k ∧ SqL K H p xs ∧ 0 ≤ k ∧ xs[k.toNat]? = some v ∧ Q v H
theorem get_list {X : Cx} : PGet X (rGetL X.K) := by
  intro pins s σ H o i ov iv Q I ro ri h
  obtain ⟨p, xs, k, v, rfl, rfl, hq, h0, he, q⟩ := h
  cases ro
  obtain ⟨t, rfl⟩ := ri
  obtain ⟨its, r, pl, hz⟩ := I.list hq
  obtain ⟨w, ew, rw'⟩ := r.get he
  have hl := r.length
  have hn := line63
  have hlt := (List.getElem?_eq_some_iff.mp he).1
  exact wpAny_getItem_list pl.isList h0 (by omega) (by simpa using ew) ⟨v, H, I, rw', q⟩
theorem x_augS {to ti te : TE} {tget : V → V → Hp → VK → Prop} {tip : TIp} {tset : TSet} (h : to σ H fun o H1 => ti σ H1 fun i H2 => tget o i H2 fun x H3 => te σ H3 fun y H4 => tip x y H4 fun z H5 => tset o i z H5 fun H6 => D.nx σ H6) : tAugS to ti te tget tip tset D σ H := h
theorem x_seqAS {to ti te : TE} {tget : V → V → Hp → VK → Prop} {tip : TIp} {tset : TSet} {u : TS} (h : tAugS to ti te tget tip tset { D with nx := u D } σ H) : tSeq (tAugS to ti te tget tip tset) u D σ H := h
theorem x_getL {xs : List V} {k : Int} (h : SqL K H a xs) (q : Q (xs.getD k.toNat .non) H) (h0 : 0 ≤ k) (h1 : k < xs.length) : rGetL K (.ref a) (.int k) H Q := ⟨a, xs, k, _, rfl, rfl, h, h0, by
  have hn : k.toNat < xs.length := by omega
  simp [hn], q⟩
theorem x_getI {ns : List Int} {k : Int} (h : SqL K H a (ns.map V.int)) (q : Q (.int (ns.getD k.toNat 0)) H) (h0 : 0 ≤ k) (h1 : k < ns.length) : rGetL K (.ref a) (.int k) H Q := ⟨a, _, k, _, rfl, rfl, h, h0, by
  have hn : k.toNat < ns.length := by omega
  simp [hn], q⟩
theorem x_rSub {m n : Int} (q : Q (.int (m - n)) H) : rSub (.int m) (.int n) H Q := ⟨m, n, rfl, rfl, q⟩
/-- == and != of scalars of any kinds -/
theorem x_eqSc (h : scal x y = true) (q : Q (.bl (decide (x = y))) H) : uEq K x y H Q := .inl ⟨h, q⟩
theorem x_neSc (h : scal x y = true) (q : Q (.bl (!decide (x = y))) H) : uNe K x y H Q := .inl ⟨h, q⟩
/-- xs[i] by values that are named otherwise -/
theorem x_ixF {α : Type} {l : List α} {g : α → V} {k : Int} (d : α) (h : SqL K H a (l.map g)) (q : Q (g (l.getD k.toNat d)) H) (h0 : 0 ≤ k) (h1 : k < l.length) : rIx K (.ref a) (.int k) H Q := by
  have hn : k.toNat < l.length := by omega
  refine x_ixL h ?_ h0 (by rw [List.length_map]; exact h1)
  rw [show (l.map g).getD k.toNat .non = g (l.getD k.toNat d) by simp [hn]]
  exact q
theorem x_f3O {C dx : Addr} {fs fs' : List (Str × V)} {z : V} (ho : H a = some (.ins C dx fs)) (hf : putF f z fs = fs') (q : ∀ H1, Off [a] H H1 → H1 a = some (.ins C dx fs') → D.nx σ H1) (hl : fs.length < 1000) : f3K a C f D σ z H := ⟨dx, fs, ho, hl, by rw [hf]; exact q _ (Off.upd (List.mem_singleton.mpr rfl)) upd_same⟩
theorem nin_of {b : Addr} (h : b ≠ a) : b ∉ [a] := fun z => h (List.mem_singleton.mp z)
theorem x_appO {xs : List V} (h : H a = some (.lst xs)) (q : ∀ H1, Off [a] H H1 → H1 a = some (.lst (xs ++ [y])) → Q .non H1) (hl : xs.length < sizeLine) : rAppend (.ref a) [y] H Q := ⟨a, xs, y, rfl, rfl, h, hl, q _ (Off.upd (List.mem_singleton.mpr rfl)) upd_same⟩
theorem str_len {n : Int} (h0 : 0 ≤ n) (h1 : n < 300) : (Str.ofString (toString n)).length ≤ 20 := by
  have k : ∀ m : Nat, m < 300 → (Str.ofString (toString (m : Int))).length ≤ 20 := by decide +kernel
  have := k n.toNat (by omega)
  rwa [show ((n.toNat : Nat) : Int) = n by omega] at this
theorem small_log {n : Int} (h0 : 0 ≤ n) (h1 : n < 1000000) : n.natAbs.log2 < 1920 := by
  by_cases e : n.natAbs = 0
  · rw [e]; decide
  · exact (Nat.log2_lt e).mpr (Nat.lt_of_lt_of_le (show n.natAbs < 2 ^ 20 by omega) (Nat.pow_le_pow_right (by decide) (by decide)))
theorem x_ixB {bs : List Bool} {k : Int} (h : SqL K H a (bs.map V.bl)) (q : Q (.bl (bs.getD k.toNat false)) H) (h0 : 0 ≤ k) (h1 : k < bs.length) : rIx K (.ref a) (.int k) H Q := x_ixF false h q h0 h1
theorem off_none {r b : Addr} {H1 : Hp} (h : Off [r] H H1) (n : H1 b = none) (hne : b ≠ r) : H b = none := by
  cases e : H b with
  | none => rfl
  | some o => rw [h.at e (nin_of hne)] at n; cases n
theorem x_clearO {xs : List V} (h : H a = some (.lst xs)) (q : ∀ H1, Off [a] H H1 → H1 a = some (.lst []) → Q .non H1) : rClear (.ref a) [] H Q := ⟨a, xs, rfl, rfl, h, q _ (Off.upd (List.mem_singleton.mpr rfl)) upd_same⟩
theorem line_len {n : Nat} (h : n ≤ 1000) : n ≤ sizeLine := Nat.le_trans h (by decide)
/-- or of two tests that only look -/
theorem x_orK {t u : TT} {QB : Bool → Hp → Prop} {b1 b2 : Bool} (h1 : ∀ QB : Bool → Hp → Prop, QB b1 H → t σ H QB) (h2 : ∀ QB : Bool → Hp → Prop, QB b2 H → u σ H QB) (q : QB (b1 || b2) H) : tOr t u σ H QB := by
  refine x_or (h1 _ ?_)
  cases b1 with
  | true => exact q
  | false => exact h2 _ q
theorem x_rAdd {m n : Int} (q : Q (.int (m + n)) H) : rAdd (.int m) (.int n) H Q := ⟨m, n, rfl, rfl, q⟩
theorem x_aug {i : Nat} {ti : TIp} (h : σ[i]? = some (some x)) (q : te σ H fun y H1 => ti x y H1 fun z H2 => D.nx (σ.set i (some z)) H2) : tAug i te ti D σ H := ⟨x, h, q⟩
theorem x_ipI {g : Int → Int → Int} {m n : Int} (q : Q (.int (g m n)) H) : ipI g (.int m) (.int n) H Q := ⟨m, n, rfl, rfl, q⟩
def whK (W : Nat → L2.St → Hp → Prop) (tb : TS) (D : Ends) (m : Nat) (σ : L2.St) : Bool → Hp → Prop := fun b H1 => if b = true then ∃ N : L2.St → Hp → Prop, (∀ σ' H', N σ' H' → ∃ m', m' < m ∧ W m' σ' H') ∧ tb { D with nx := N, ct := N, bk := D.nx } σ H1 else D.nx σ H1
theorem x_whl (W : Nat → L2.St → Hp → Prop) (m : Nat) (h0 : W m σ H) (hs : ∀ m σ H, W m σ H → tc σ H (whK W tb D m σ)) : tWhile tc tb D σ H := ⟨W, ⟨m, h0⟩, hs⟩
theorem x_whD {W : Nat → L2.St → Hp → Prop} {m : Nat} {p : Prop} [Decidable p] (h1 : p → ∀ N : L2.St → Hp → Prop, (∀ m' σ' H', m' < m → W m' σ' H' → N σ' H') → tb { D with nx := N, ct := N, bk := D.nx } σ H) (h2 : ¬ p → D.nx σ H) : whK W tb D m σ (decide p) H := by
  unfold whK
  refine x_iteD (fun h => ?_) h2
  exact ⟨fun σ' H' => ∃ m', m' < m ∧ W m' σ' H', fun _ _ n => n, h1 h _ fun m' σ' H' l w => ⟨m', l, w⟩⟩
theorem x_isN (q : Q (.bl (decide (x = .non))) H) : uIs x .non H Q := .inl ⟨rfl, q⟩
theorem x_isNotN (q : Q (.bl (!decide (x = .non))) H) : uIsNot x .non H Q := .inl ⟨rfl, q⟩
theorem x_isB {b c : Bool} (q : Q (.bl (decide (b = c))) H) : uIs (.bl b) (.bl c) H Q := .inr ⟨b, c, rfl, rfl, q⟩
theorem x_isNotB {b c : Bool} (q : Q (.bl (!decide (b = c))) H) : uIsNot (.bl b) (.bl c) H Q := .inr ⟨b, c, rfl, rfl, q⟩
theorem inV_int (n : Int) (ns : List Int) : inV (.int n) (ns.map V.int) = decide (n ∈ ns) := by
  unfold inV
  induction ns with
  | nil => rfl
  | cons m ns ih =>
    rw [List.map_cons, List.any_cons, ih]
    have e : eqV (.int m) (.int n) = decide (n = m) := by
      show (m == n) = _
      rw [Bool.eq_iff_iff, beq_iff_eq, decide_eq_true_iff]
      exact ⟨Eq.symm, Eq.symm⟩
    rw [e, ← Bool.decide_or, decide_eq_decide, List.mem_cons]
theorem flat_ints (ns : List Int) : (ns.map V.int).all flatV = true := by
  rw [List.all_eq_true]
  intro x h
  obtain ⟨n, _, rfl⟩ := List.mem_map.mp h
  rfl
theorem x_inI {n : Int} {ns : List Int} (h : SqL K H a (ns.map V.int)) (q : Q (.bl (decide (n ∈ ns))) H) : uIn K (.int n) (.ref a) H Q := ⟨a, _, rfl, .inl h, rfl, flat_ints ns, by rw [inV_int] <;> exact q⟩
theorem x_notInI {n : Int} {ns : List Int} (h : SqL K H a (ns.map V.int)) (q : Q (.bl (!decide (n ∈ ns))) H) : uNotIn K (.int n) (.ref a) H Q := ⟨a, _, rfl, .inl h, rfl, flat_ints ns, by rw [inV_int] <;> exact q⟩
end
/-! ### dicts of text keys -/
section
variable {σ : L2.St} {H : Hp} {K : PySem.W.Frag} {D : Ends} {td ty tv : TE} {a : Addr} {Q : VK} {x v : V} {z : Str} {kvs kvs' : List (L2.Key × V)}
def dgK (x : V) (Q : VK) : V → Hp → Prop := fun y H2 => ∃ a v, x = .ref a ∧ DGet H2 a y (some v) ∧ Q v H2
theorem x_dget (h : td σ H fun x H1 => ty σ H1 (dgK x Q)) : tDGet td ty σ H Q := h
theorem x_dgS (h : H a = some (.dK kvs)) (hv : valV kvs (.inr z) = some v) (q : Q v H) : dgK (.ref a) Q (.str z) H := ⟨a, v, rfl, by rw [← hv]; exact DGet.k (k := .inr z) h, q⟩
theorem x_dgI {n : Int} (h : H a = some (.dK kvs)) (hv : valV kvs (.inl n) = some v) (q : Q v H) : dgK (.ref a) Q (.int n) H := ⟨a, v, rfl, by rw [← hv]; exact DGet.k (k := .inl n) h, q⟩
def dpK (x v : V) (D : Ends) (σ : L2.St) : V → Hp → Prop := fun y H3 => ∃ a H4, x = .ref a ∧ DPut H3 a y v H4 ∧ D.nx σ H4
theorem x_dput (h : tv σ H fun v H1 => td σ H1 fun x H2 => ty σ H2 (dpK x v D σ)) : sDPut td ty tv D σ H := h
theorem x_seqDP {u : TS} (h : sDPut td ty tv { D with nx := u D } σ H) : tSeq (sDPut td ty tv) u D σ H := h
theorem x_dpS (h : H a = some (.dK kvs)) (hk : putK kvs (.inr z) v = kvs') (q : ∀ H1, Off [a] H H1 → H1 a = some (.dK kvs') → D.nx σ H1) (hl : kvs.length ≤ 1000) : dpK (.ref a) v D σ (.str z) H :=
  ⟨a, _, rfl, DPut.k (k := .inr z) h (Nat.lt_of_le_of_lt hl (by decide)), by rw [hk]; exact q _ (Off.upd (List.mem_singleton.mpr rfl)) upd_same⟩
theorem x_dpI {n : Int} (h : H a = some (.dK kvs)) (hk : putK kvs (.inl n) v = kvs') (q : ∀ H1, Off [a] H H1 → H1 a = some (.dK kvs') → D.nx σ H1) (hl : kvs.length ≤ 1000) : dpK (.ref a) v D σ (.int n) H :=
  ⟨a, _, rfl, DPut.k (k := .inl n) h (Nat.lt_of_le_of_lt hl (by decide)), by rw [hk]; exact q _ (Off.upd (List.mem_singleton.mpr rfl)) upd_same⟩
/-- {k: v, ..} -/
def dspK (p : Addr) (Q : VK) : List (V × V) → Hp → Prop := fun ps H2 => H2 p = some (.dK []) ∧ ∃ kvs : List (L2.Key × V), ps = kvs.map (fun kv => (kV kv.1, kv.2)) ∧ kvs.length ≤ 15 ∧ Q (.ref p) (upd H2 p (.dK (mergeK [] kvs)))
theorem x_disp {trs : List (TE × TE)} (h : ∀ p H1, H p = none → Same H H1 → H1 p = some (.dK []) → tPairs trs σ H1 (dspK p Q)) : tDisp trs σ H Q := fun p hp => h p _ hp (same_upd hp) upd_same
theorem x_prN {QP : List (V × V) → Hp → Prop} (q : QP [] H) : tPairs [] σ H QP := q
theorem x_prC {tk tv : TE} {r : List (TE × TE)} {QP : List (V × V) → Hp → Prop} (q : tk σ H fun x H1 => tv σ H1 fun y H2 => tPairs r σ H2 fun ps H3 => QP ((x, y) :: ps) H3) : tPairs ((tk, tv) :: r) σ H QP := q
theorem x_dspK {ps : List (V × V)} (kvs : List (L2.Key × V)) (h : H a = some (.dK [])) (e : ps = kvs.map (fun kv => (kV kv.1, kv.2))) (hl : kvs.length ≤ 15) (hm : mergeK [] kvs = kvs') (q : ∀ H1, Off [a] H H1 → H1 a = some (.dK kvs') → Q (.ref a) H1) : dspK a Q ps H :=
  ⟨h, kvs, e, hl, by rw [hm]; exact q _ (Off.upd (List.mem_singleton.mpr rfl)) upd_same⟩
theorem x_dnew (h : ∀ p H1, H p = none → Same H H1 → H1 p = some (.dK []) → Q (.ref p) H1) : tDNewK σ H Q := fun p hp => h p _ hp (same_upd hp) upd_same
/-! k in d, d.get(k), d.get(k, x), d.setdefault(k, x), d.pop(k), d.pop(k, x) -/
def dinK (y : V) (Q : VK) : V → Hp → Prop := fun x H2 => ∃ a o, x = .ref a ∧ DGet H2 a y o ∧ Q (.bl o.isSome) H2
theorem x_din (h : ty σ H fun y H1 => td σ H1 (dinK y Q)) : tDIn ty td σ H Q := h
def dninK (y : V) (Q : VK) : V → Hp → Prop := fun x H2 => ∃ a o, x = .ref a ∧ DGet H2 a y o ∧ Q (.bl (!o.isSome)) H2
theorem x_dnin (h : ty σ H fun y H1 => td σ H1 (dninK y Q)) : tDNotIn ty td σ H Q := h
theorem x_dninI {n : Int} (h : H a = some (.dK kvs)) (q : Q (.bl (!(valV kvs (.inl n)).isSome)) H) : dninK (.int n) Q (.ref a) H := ⟨a, _, rfl, DGet.k (k := .inl n) h, q⟩
theorem x_dinI {n : Int} (h : H a = some (.dK kvs)) (q : Q (.bl (valV kvs (.inl n)).isSome) H) : dinK (.int n) Q (.ref a) H := ⟨a, _, rfl, DGet.k (k := .inl n) h, q⟩
def dg1E (a : Addr) (Q : VK) : V → Hp → Prop := fun y H2 => ∃ o, DGet H2 a y o ∧ Q (o.getD .non) H2
def dg1K (ty : TE) (Q : VK) (σ : L2.St) : V → Hp → Prop := fun x H1 => ∃ a, x = .ref a ∧ IsD H1 a ∧ ty σ H1 (dg1E a Q)
theorem x_dget1 (h : td σ H (dg1K ty Q σ)) : tDGet1 td ty σ H Q := h
theorem x_dg1K (h : H a = some (.dK kvs)) (q : ty σ H (dg1E a Q)) : dg1K ty Q σ (.ref a) H := ⟨a, rfl, .inl ⟨kvs, .inl h⟩, q⟩
theorem x_dg1I {n : Int} (h : H a = some (.dK kvs)) (q : Q ((valV kvs (.inl n)).getD .non) H) : dg1E a Q (.int n) H := ⟨_, DGet.k (k := .inl n) h, q⟩
def dsE (a : Addr) (Q : VK) (y : V) : V → Hp → Prop := fun z H3 => ∃ (kvs : List (L2.Key × V)) (k : L2.Key), H3 a = some (.dK kvs) ∧ y = kV k ∧ kvs.length < sizeLine ∧ (∀ v, valV kvs k = some v → Q v H3) ∧ (valV kvs k = none → Q z (L2.upd H3 a (.dK (putK kvs k z))))
def dsK (ty tx : TE) (Q : VK) (σ : L2.St) : V → Hp → Prop := fun x H1 => ∃ a, x = .ref a ∧ IsD H1 a ∧ ty σ H1 fun y H2 => tx σ H2 (dsE a Q y)
theorem x_dsetd {tx : TE} (h : td σ H (dsK ty tx Q σ)) : tDSetd td ty tx σ H Q := h
theorem x_dsK {tx : TE} (h : H a = some (.dK kvs)) (q : ty σ H fun y H2 => tx σ H2 (dsE a Q y)) : dsK ty tx Q σ (.ref a) H := ⟨a, rfl, .inl ⟨kvs, .inl h⟩, q⟩
theorem x_dsI {n : Int} (h : H a = some (.dK kvs)) (hl : kvs.length ≤ 1000) (q1 : ∀ u, valV kvs (.inl n) = some u → Q u H) (q2 : valV kvs (.inl n) = none → ∀ H1, Off [a] H H1 → H1 a = some (.dK (putK kvs (.inl n) v)) → Q v H1) : dsE a Q (.int n) v H :=
  ⟨kvs, .inl n, h, rfl, Nat.lt_of_le_of_lt hl (by decide), q1, fun hn => q2 hn _ (Off.upd (List.mem_singleton.mpr rfl)) upd_same⟩
def dpp1E (a : Addr) (Q : VK) : V → Hp → Prop := fun y H2 => ∃ kvs k v, H2 a = some (.dK kvs) ∧ y = kV k ∧ valV kvs k = some v ∧ Q v (L2.upd H2 a (.dK (dropK kvs k)))
def dpp1K (ty : TE) (Q : VK) (σ : L2.St) : V → Hp → Prop := fun x H1 => ∃ a, x = .ref a ∧ IsD H1 a ∧ ty σ H1 (dpp1E a Q)
theorem x_dpop1 (h : td σ H (dpp1K ty Q σ)) : tDPop1 td ty σ H Q := h
theorem x_dpp1K (h : H a = some (.dK kvs)) (q : ty σ H (dpp1E a Q)) : dpp1K ty Q σ (.ref a) H := ⟨a, rfl, .inl ⟨kvs, .inl h⟩, q⟩
theorem x_dpp1I {n : Int} (h : H a = some (.dK kvs)) (hv : valV kvs (.inl n) = some v) (q : ∀ H1, Off [a] H H1 → H1 a = some (.dK (dropK kvs (.inl n))) → Q v H1) : dpp1E a Q (.int n) H := ⟨kvs, .inl n, v, h, rfl, hv, q _ (Off.upd (List.mem_singleton.mpr rfl)) upd_same⟩
def dpp2E (a : Addr) (Q : VK) (y : V) : V → Hp → Prop := fun z H3 => ∃ kvs k, H3 a = some (.dK kvs) ∧ y = kV k ∧ (∀ v, valV kvs k = some v → Q v (L2.upd H3 a (.dK (dropK kvs k)))) ∧ (valV kvs k = none → Q z H3)
def dpp2K (ty tx : TE) (Q : VK) (σ : L2.St) : V → Hp → Prop := fun x H1 => ∃ a, x = .ref a ∧ IsD H1 a ∧ ty σ H1 fun y H2 => tx σ H2 (dpp2E a Q y)
theorem x_dpop2 {tx : TE} (h : td σ H (dpp2K ty tx Q σ)) : tDPop2 td ty tx σ H Q := h
theorem x_dpp2K {tx : TE} (h : H a = some (.dK kvs)) (q : ty σ H fun y H2 => tx σ H2 (dpp2E a Q y)) : dpp2K ty tx Q σ (.ref a) H := ⟨a, rfl, .inl ⟨kvs, .inl h⟩, q⟩
theorem x_dpp2I {n : Int} (h : H a = some (.dK kvs)) (q1 : ∀ u, valV kvs (.inl n) = some u → ∀ H1, Off [a] H H1 → H1 a = some (.dK (dropK kvs (.inl n))) → Q u H1) (q2 : valV kvs (.inl n) = none → Q v H) : dpp2E a Q (.int n) v H :=
  ⟨kvs, .inl n, h, rfl, fun u hu => q1 u hu _ (Off.upd (List.mem_singleton.mpr rfl)) upd_same, q2⟩
/-- what a dict of whole numbers tells behind a new pair -/
theorem valV_put_self {kvs : List (L2.Key × V)} {k : L2.Key} (hn : valV kvs k = none) : putK kvs k v = kvs ++ [(k, v)] := by
  unfold putK
  rw [valV_any, hn]
  rfl
end
/-! ### exceptions -/
section
variable {X : Cx} {K : PySem.W.Frag} {W Wout : WX} {D : Ends} {σ : L2.St} {H : Hp} {cls c : Value} {d : Option Addr} {a C fI : Addr} {Q : VK}
/-- an exception class without an own __init__ -/
structure XC (K : PySem.W.Frag) (C : Addr) : Prop where
  q : PySem.W.excIn K C [.type "ValueError", .type "Exception", .type "BaseException", .type "object"] "ValueError.__new__" = true
  k : PySem.W.keepIn K (.ref C) = true
  r : PySem.W.subIn K (.ref C) (.type "BaseException") = some true
  t : PySem.W.typeIn K (.ref C) = some (.type "type")
/-- one with an own __init__ -/
structure XI (K : PySem.W.Frag) (C fI : Addr) : Prop where
  o : OexC K C
  i : PySem.W.findIn K (.ref C) "__init__" = some (some (.ref fI))
  t : PySem.W.typeIn K (.ref fI) = some (.type "function")
  f : XfC K C
def tRaise (t : L2.St → Hp → XK → Prop) (W : WX) : TS := fun _ σ H => t σ H fun cls d H' => W cls d σ H'
theorem ps_raiseK {e : Expr} {t : L2.St → Hp → XK → Prop} {pos : Pos} (hc : X.calm = true) (tk : Takes X W) (he : PMk X e t) : PS X (.Raise (some e) none pos) (tRaise t W) := ps_raise hc tk he
def tMkE (C : Addr) : L2.St → Hp → XK → Prop := fun _ H Q => Q (.ref C) none H
theorem pmk_ownK {x m : Str} {j : Nat} {p p2 pos : Pos} (T : XC X.K C) (gC : X.mg x = some (.ref C)) (hg : Gl X x) (hdb : (x == ("__debug__" : Str)) = false := by decide) : PMk X (.Call (.Name x p) [.Constant (.str m) j p2] [] pos) (tMkE C) :=
  pmk_own PySem.F.excBase_ValueError T.q gC T.k (raises_own T.r T.t) hg hdb
theorem x_raise {t : L2.St → Hp → XK → Prop} (h : t σ H fun cls d H' => W cls d σ H') : tRaise t W D σ H := h
theorem x_seqR {t : L2.St → Hp → XK → Prop} {u : TS} (h : tRaise t W { D with nx := u D } σ H) : tSeq (tRaise t W) u D σ H := h
theorem x_mkE {Q : XK} (q : Q (.ref C) none H) : tMkE C σ H Q := q
def tTry1 (K : PySem.W.Frag) (c : Value) (tb : WX → TS) (ts : Addr → Value → Option Addr → TS) (Wout : WX) : TS := fun D σ H => tb (wOnly K c ts Wout D) D σ H
theorem x_try1 {tb : WX → TS} {ts : Addr → Value → Option Addr → TS} (h : tb (wOnly K c ts Wout D) D σ H) : tTry1 K c tb ts Wout D σ H := h
theorem x_seqT1 {tb : WX → TS} {ts : Addr → Value → Option Addr → TS} {u : TS} (h : tTry1 K c tb ts Wout { D with nx := u D } σ H) : tSeq (tTry1 K c tb ts Wout) u D σ H := h
theorem ps_try1 {x : Str} {body suite : List Stmt} {b₀ : Stmt} {np pos pos' : Pos} {tb : WX → TS} {ts : Addr → Value → Option Addr → TS} (hs : X.stack = X.env :: X.outer) (hf : X.env.frame = some X.env.locals) (hc : Names X x c) (tk : Takes X Wout)
    (hb : ∀ (W : WX) (pn : List (Addr × Obj)) (xe : Value → Shared → Prop), Takes (X.tr pn xe) W → PassesOwn (model X.prog X.w) X.A X.env xe → PSs (X.tr pn xe) body (tb W))
    (hsu : ∀ (a : Addr) (oe : Obj) (cls : Value) (d : Option Addr) (pn : List (Addr × Obj)), Zc cls d oe → (∃ vs, oe.data = .fields vs) → PSs (X.suite a ((a, oe) :: pn)) (b₀ :: suite) (ts a cls d)) :
    PS X (.Try body [.ExceptHandler (some (.Name x np)) none (b₀ :: suite) pos'] [] [] pos) (tTry1 X.K c tb ts Wout) := ps_try_only hs hf hc tk hb hsu
theorem x_onlyT {ts : Addr → Value → Option Addr → TS} (hx : PySem.W.exmOne K cls c = some true) (q : ∀ a, H a = none → ts a cls d D σ H) : wOnly K c ts Wout D cls d σ H := ⟨true, hx, fun _ => q, fun z => nomatch z⟩
theorem x_onlyF {ts : Addr → Value → Option Addr → TS} (hx : PySem.W.exmOne K cls c = some false) (q : Wout cls d σ H) : wOnly K c ts Wout D cls d σ H := ⟨false, hx, (fun z => nomatch z), fun _ => q⟩
def tTryA (K : PySem.W.Frag) (c : Value) (i : Nat) (tb : WX → TS) (ts : Addr → Value → Option Addr → TS) (Wout : WX) : TS := fun D σ H => tb (wAs K c i ts Wout D) D σ H
theorem x_tryA {i : Nat} {tb : WX → TS} {ts : Addr → Value → Option Addr → TS} (h : tb (wAs K c i ts Wout D) D σ H) : tTryA K c i tb ts Wout D σ H := h
theorem x_seqTA {i : Nat} {tb : WX → TS} {ts : Addr → Value → Option Addr → TS} {u : TS} (h : tTryA K c i tb ts Wout { D with nx := u D } σ H) : tSeq (tTryA K c i tb ts Wout) u D σ H := h
theorem ps_tryA {x n : Str} {i : Nat} {body suite : List Stmt} {b₀ : Stmt} {np pos pos' : Pos} {tb : WX → TS} {ts : Addr → Value → Option Addr → TS} (hs : X.stack = X.env :: X.outer) (hf : X.env.frame = some X.env.locals) (hN : X.N.Nodup) (hi : X.N[i]? = some n) (hln : X.env.kindOf n = some .local) (hc : Names X x c) (tk : Takes X Wout)
    (hb : ∀ (W : WX) (pn : List (Addr × Obj)) (xe : Value → Shared → Prop), Takes (X.tr pn xe) W → PassesOwn (model X.prog X.w) X.A X.env xe → PSs (X.tr pn xe) body (tb W))
    (hsu : ∀ (a : Addr) (oe : Obj) (cls : Value) (d : Option Addr) (pn : List (Addr × Obj)), Zc cls d oe → (∃ vs, oe.data = .fields vs) → PSs (X.suite a ((a, oe) :: pn)) (b₀ :: suite) (ts a cls d)) :
    PS X (.Try body [.ExceptHandler (some (.Name x np)) (some n) (b₀ :: suite) pos'] [] [] pos) (tTryA X.K c i tb ts Wout) := ps_try_as hs hf hN hi hln hc tk hb hsu
theorem x_asT {i : Nat} {ts : Addr → Value → Option Addr → TS} (hx : PySem.W.exmOne K cls c = some true)
    (q : ∀ a, H a = none → ts a cls d { nx := fun σ' H' => D.nx (σ'.set i none) H', rt := D.rt, bk := fun σ' H' => D.bk (σ'.set i none) H', ct := fun σ' H' => D.ct (σ'.set i none) H' } (σ.set i (some (.ref a))) H) : wAs K c i ts Wout D cls d σ H := ⟨true, hx, fun _ => q, fun z => nomatch z⟩
theorem x_asF {i : Nat} {ts : Addr → Value → Option Addr → TS} (hx : PySem.W.exmOne K cls c = some false) (q : Wout cls d σ H) : wAs K c i ts Wout D cls d σ H := ⟨false, hx, (fun z => nomatch z), fun _ => q⟩
/-! several except clauses -/
def tTryM (K : PySem.W.Frag) (l : List (Value × (Addr → Value → Option Addr → TS))) (tb : WX → TS) (Wout : WX) : TS := fun D σ H => tb (wMany K Wout D l) D σ H
theorem x_tryM {l : List (Value × (Addr → Value → Option Addr → TS))} {tb : WX → TS} (h : tb (wMany K Wout D l) D σ H) : tTryM K l tb Wout D σ H := h
theorem x_seqTM {l : List (Value × (Addr → Value → Option Addr → TS))} {tb : WX → TS} {u : TS} (h : tTryM K l tb Wout { D with nx := u D } σ H) : tSeq (tTryM K l tb Wout) u D σ H := h
theorem ps_tryM {body : List Stmt} {h₀ : ExceptHandler} {hds : List ExceptHandler} {l : List (Value × (Addr → Value → Option Addr → TS))} {pos : Pos} {tb : WX → TS} (hs : X.stack = X.env :: X.outer) (hf : X.env.frame = some X.env.locals) (tk : Takes X Wout)
    (hb : ∀ (W : WX) (pn : List (Addr × Obj)) (xe : Value → Shared → Prop), Takes (X.tr pn xe) W → PassesOwn (model X.prog X.w) X.A X.env xe → PSs (X.tr pn xe) body (tb W))
    (hh : HdsOk X (h₀ :: hds) l) : PS X (.Try body (h₀ :: hds) [] [] pos) (tTryM X.K l tb Wout) := ps_try_many hs hf tk hb hh
theorem x_manyT {l : List (Value × (Addr → Value → Option Addr → TS))} {ts : Addr → Value → Option Addr → TS} (hx : PySem.W.exmOne K cls c = some true) (q : ∀ a, H a = none → ts a cls d D σ H) : wMany K Wout D ((c, ts) :: l) cls d σ H := ⟨true, hx, fun _ => q, fun z => nomatch z⟩
theorem x_manyF {l : List (Value × (Addr → Value → Option Addr → TS))} {ts : Addr → Value → Option Addr → TS} (hx : PySem.W.exmOne K cls c = some false) (q : wMany K Wout D l cls d σ H) : wMany K Wout D ((c, ts) :: l) cls d σ H := ⟨false, hx, (fun z => nomatch z), fun _ => q⟩
theorem x_manyN (q : Wout cls d σ H) : wMany K Wout D [] cls d σ H := q
/-- e.f of a caught exception -/
def xfK (a : Addr) (cls : Value) (d : Option Addr) (C : Addr) (f : Str) (Q : VK) : V → Hp → Prop := fun x H1 => x = .ref a ∧ cls = .ref C ∧ ∃ (dd : Addr) (fs : List (Str × V)) (v : V), d = some dd ∧ H1 dd = some (.xd fs) ∧ fs.lookup f = some v ∧ Q v H1
theorem x_xf {f : Str} {te : TE} (h : te σ H (xfK a cls d C f Q)) : tXf a cls d C f te σ H Q := h
theorem x_xfK {f : Str} {dd : Addr} {fs : List (Str × V)} {v : V} (h : H dd = some (.xd fs)) (hl : fs.lookup f = some v) (q : Q v H) : xfK a (.ref C) (some dd) C f Q (.ref a) H := ⟨rfl, rfl, dd, fs, v, rfl, h, hl, q⟩
/-- isinstance(e, c) of a caught exception without fields -/
def rIsX (K : PySem.W.Frag) (a : Addr) (cls : Value) (d : Option Addr) : List V → Hp → VK → Prop := fun xs H Q => ∃ (E : Addr) (t : String) (b : Bool), cls = .ref E ∧ d = none ∧ ExcC K E ∧ xs = [.ref a, .ty t] ∧ PySem.W.kitOne K (.ref E) (.type t) = some b ∧ Q (.bl b) H
/-- isinstance(e, C), C an own class -/
def rIsXC (K : PySem.W.Frag) (a : Addr) (cls : Value) (d : Option Addr) : List V → Hp → VK → Prop := fun xs H Q => ∃ (E C : Addr) (b : Bool), cls = .ref E ∧ d = none ∧ ExcC K E ∧ xs = [.ref a, .ref C] ∧ PySem.W.kitOne K (.ref E) (.ref C) = some b ∧ Q (.bl b) H
theorem cr_isXC {oe : Obj} {pn : List (Addr × Obj)} (hz : Zc cls d oe) (hf : ∃ vs, oe.data = .fields vs) : CallR (X.suite a ((a, oe) :: pn)) (.builtin "isinstance") (rIsXC X.K a cls d) := by
  intro pins s σ H xs us Q I r h
  obtain ⟨E, C, b, rfl, rfl, hE, rfl, hk, q⟩ := h
  exact call_isE hE hz hf pins s σ H _ us Q I r ⟨.ref C, .ref C, b, rfl, fun u z => z, hk, q⟩
theorem x_isXC {E C : Addr} {b : Bool} (q : Q (.bl b) H) (hE : ExcC K E) (hk : PySem.W.kitOne K (.ref E) (.ref C) = some b) : rIsXC K a (.ref E) none [.ref a, .ref C] H Q := ⟨E, C, b, rfl, rfl, hE, rfl, hk, q⟩
theorem cr_isX {oe : Obj} {pn : List (Addr × Obj)} (hz : Zc cls d oe) (hf : ∃ vs, oe.data = .fields vs) : CallR (X.suite a ((a, oe) :: pn)) (.builtin "isinstance") (rIsX X.K a cls d) := by
  intro pins s σ H xs us Q I r h
  obtain ⟨E, t, b, rfl, rfl, hE, rfl, hk, q⟩ := h
  exact call_isE hE hz hf pins s σ H _ us Q I r ⟨.ty t, .type t, b, rfl, fun u z => z, hk, q⟩
theorem x_isX {E : Addr} {t : String} {b : Bool} (q : Q (.bl b) H) (hE : ExcC K E) (hk : PySem.W.kitOne K (.ref E) (.type t) = some b) : rIsX K a (.ref E) none [.ref a, .ty t] H Q := ⟨E, t, b, rfl, rfl, hE, rfl, hk, q⟩
/-! a class with an own __init__ -/
structure WInit (K : PySem.W.Frag) (W : Addr) : Prop where
  ga : PySem.W.specialIn K (.ref W) "__getattribute__" = some (some (.builtin "type.__getattribute__"))
  rd : PySem.W.readsIn K W (.type "type") = true
  fd : PySem.W.findCls K (.ref W) (.type "type") "__init__" = some (.val (.builtin "ValueError.__init__"))
theorem pe_weinit {pl : Sem Bool} {x : Str} {Wc : Addr} {e : Expr} {es : List Expr} {ta : TA} {p1 p2 pos : Pos} (w : WInit X.K Wc) (hg : Gl X x) (hm : X.mg x = some (.ref Wc)) (ha : PA X (e :: es) ta) (hdb : (x == ("__debug__" : Str)) = false := by decide)
    (hc : eval (.Call (.Attribute (.Name x p1) "__init__" p2) (e :: es) [] pos) X.env = (do
      let ov ← eval (.Name x p1) X.env
      standAt p2.atName
      let (f, first) ← holding [ov] (getMethod ov "__init__" pl)
      callWith pos f first (backTo pos (starEach (e :: es) X.env)) (backToKw pos (keywordEach [] X.env))) := by rfl)
    (he : starEach (e :: es) X.env = (false, eval e X.env) :: starEach es X.env := by rfl) (hpl : (backTo pos (starEach es X.env)).any (·.1) = false := by rfl) :
    PE X (.Call (.Attribute (.Name x p1) "__init__" p2) (e :: es) [] pos) (tVeI X.K ta) := by
  refine ⟨fun pins s σ H Q I h => ?_⟩
  refine PySem.W.methodCall_KW (ld_glob I hg hm ?_ hdb) hc
  refine PySem.W.method_cls I.kIn w.ga (PySem.W.cls_value I.kIn w.rd w.fd (by decide +kernel) ?_)
  show wpAny _ _ (callWith pos (Value.builtin "ValueError.__init__") [] (backTo pos (starEach (e :: es) X.env)) []) _ _ _
  refine PyProof.Rows.callWith_method1 (thn (ha.run pos pins _ σ H _ (I.tok _) h) fun us s1 ⟨vs, H1, I1, r1, a, C, ws, ev, hl, T, ea, q⟩ => ?_) he hpl
  subst ev
  cases r1 with
  | @cons _ u0 _ ur ra rw' =>
    obtain rfl : u0 = Value.ref a := ra
    have hlen : ur.length ≤ sizeLine := by
      rw [← Paired.length rw', sizeLine_eq]
      omega
    exact oinit_ok T I1 ea hlen fun s' J => ⟨.non, H1, J, rfl, q⟩
def veK (K : PySem.W.Frag) (Q : VK) : List V → Hp → Prop := fun vs H1 => ∃ (a C : Addr) (ws : List V), vs = .ref a :: ws ∧ ws.length ≤ 1000 ∧ OexC K C ∧ H1 a = some (exo a C none) ∧ Q .non H1
theorem x_vei {ta : TA} (h : ta σ H (veK K Q)) : tVeI K ta σ H Q := h
theorem x_veK {ws : List V} (o : OexC K C) (h : H a = some (exo a C none)) (q : Q .non H) (hl : ws.length ≤ 1000) : veK K Q (.ref a :: ws) H := ⟨a, C, ws, rfl, hl, o, h, q⟩
/-- self.f = v, the first one -/
theorem x_ost {f : Str} {to te : TE} (h : te σ H fun y H1 => to σ H1 fun x H2 => ∃ a C : Addr, x = .ref a ∧ OexC K C ∧ PySem.W.findIn K (.ref C) f = some none ∧
  ((H2 a = some (exo a C none) ∧ ∀ dx, H2 dx = none → dx ≠ a → D.nx σ (upd (upd H2 dx (exd dx [(f, y)])) a (exo a C (some dx)))) ∨
    ∃ (dx : Addr) (fs : List (Str × V)), H2 a = some (exo a C (some dx)) ∧ H2 dx = some (exd dx fs) ∧ fs.length ≤ 900 ∧ D.nx σ (upd H2 dx (exd dx ((f, y) :: fs))))) : tOst K f to te D σ H := h
/-- the spec of an exception's __init__ with one field f: what is left -/
def spXInit (K : PySem.W.Frag) (C : Addr) (f : Str) (A : V → Prop) : Sp := fun vs H Q _ => ∃ (a : Addr) (v : V), vs = [.ref a, v] ∧ A v ∧ OexC K C ∧ PySem.W.findIn K (.ref C) f = some none ∧ H a = some (exo a C none) ∧
  ∀ dx, H dx = none → dx ≠ a → Q .non (upd (upd H dx (exd dx [(f, v)])) a (exo a C (some dx)))
theorem passE0 : Passes (L2.CX X.prog X.w) X (fun _ _ _ => False) := fun _ _ _ _ _ _ _ h => by
  obtain ⟨_, _, _, _, _, _, _, _, _, _, _, _, z⟩ := h
  exact z.elim
def moK (C : Addr) (sp : Sp) (dvs : List V) (Q : XK) : List V → Hp → Prop := fun vs H1 => vs.length ≤ 1000 ∧ ∀ a, H1 a = none → sp (.ref a :: (vs ++ dvs)) (upd H1 a (exo a C none))
  (fun v H2 => v = .non ∧ ∃ (d : Addr) (fs : List (Str × V)), H2 a = some (exo a C (some d)) ∧ H2 d = some (exd d fs) ∧ H1 d = none ∧ Q (.ref C) (some d) (upd (del H2 a) d (.xd fs))) (fun _ _ _ => False)
theorem x_mkO {sp : Sp} {dvs : List V} {Q : XK} {ta : TA} (h : ta σ H (moK C sp dvs Q)) : tMkO C sp dvs ta σ H Q := h
theorem x_moK {f : Str} {v : V} {A : V → Prop} {Q : XK} (hv : A v) (q : ∀ d H1, H d = none → Same H H1 → H1 d = some (.xd [(f, v)]) → Q (.ref C) (some d) H1) (o : OexC K C) (n : PySem.W.findIn K (.ref C) f = some none) : moK C (spXInit K C f A) [] Q [v] H := by
  refine ⟨Nat.le_of_ble_eq_true rfl, fun a na => ⟨a, v, rfl, hv, o, n, upd_same, fun dx nd ne => ⟨rfl, dx, [(f, v)], upd_same, ?_, ?_, ?_⟩⟩⟩
  · rw [upd_ne ne, upd_same]
  · rw [upd_ne ne] at nd; exact nd
  · rw [upd_ne ne] at nd
    have e : upd (del (upd (upd (upd H a (exo a C none)) dx (exd dx [(f, v)])) a (exo a C (some dx))) a) dx (.xd [(f, v)]) = upd H dx (.xd [(f, v)]) := by
      funext b
      by_cases hb : b = dx
      · rw [hb, upd_same, upd_same]
      · rw [upd_ne hb, upd_ne hb]
        by_cases hba : b = a
        · rw [hba, del_same, na]
        · rw [del_ne hba, upd_ne hba, upd_ne hb, upd_ne hba]
    rw [e]
    exact q dx _ nd (same_upd nd) upd_same
end
/-! several except clauses, some of them with a name -/
section
variable {X : Cx}
/-- what a clause does with an exception at q: the slot of its name, if it has one, holds it -/
def inAs (o : Option Nat) (ts : Addr → Value → Option Addr → TS) (q : Addr) (cls : Value) (d : Option Addr) : TS := match o with
  | none => ts q cls d
  | some i => fun D σ H => ts q cls d { nx := fun σ' H' => D.nx (σ'.set i none) H', rt := D.rt, bk := fun σ' H' => D.bk (σ'.set i none) H', ct := fun σ' H' => D.ct (σ'.set i none) H' } (σ.set i (some (.ref q))) H
def wMix (K : PySem.W.Frag) (Wout : WX) (D : Ends) : List (Value × Option Nat × (Addr → Value → Option Addr → TS)) → WX
  | [] => Wout
  | (c, o, ts) :: r => fun cls d σ H => ∃ b, PySem.W.exmOne K cls c = some b ∧ (b = true → ∀ q, H q = none → inAs o ts q cls d D σ H) ∧ (b = false → wMix K Wout D r cls d σ H)
inductive Cl (X : Cx) : List ExceptHandler → List (Value × Option Nat × (Addr → Value → Option Addr → TS)) → Prop
  | nil : Cl X [] []
  | one {x : Str} {c : Value} {ts : Addr → Value → Option Addr → TS} {b₀ : Stmt} {su : List Stmt} {p1 p2 : Pos} {hs : List ExceptHandler} {l : List (Value × Option Nat × (Addr → Value → Option Addr → TS))} (nm : Names X x c)
      (k : ∀ (q : Addr) (oe : Obj) (cls : Value) (d : Option Addr) (pn : List (Addr × Obj)), Zc cls d oe → (∃ vs, oe.data = .fields vs) → PSs (X.suite q ((q, oe) :: pn)) (b₀ :: su) (ts q cls d)) (r : Cl X hs l) :
      Cl X (.ExceptHandler (some (.Name x p1)) none (b₀ :: su) p2 :: hs) ((c, none, ts) :: l)
  | asn {x n : Str} {i : Nat} {c : Value} {ts : Addr → Value → Option Addr → TS} {b₀ : Stmt} {su : List Stmt} {p1 p2 : Pos} {hs : List ExceptHandler} {l : List (Value × Option Nat × (Addr → Value → Option Addr → TS))} (hi : X.N[i]? = some n) (hl : X.env.kindOf n = some .local) (nm : Names X x c)
      (k : ∀ (q : Addr) (oe : Obj) (cls : Value) (d : Option Addr) (pn : List (Addr × Obj)), Zc cls d oe → (∃ vs, oe.data = .fields vs) → PSs (X.suite q ((q, oe) :: pn)) (b₀ :: su) (ts q cls d)) (r : Cl X hs l) :
      Cl X (.ExceptHandler (some (.Name x p1)) (some n) (b₀ :: su) p2 :: hs) ((c, some i, ts) :: l)
def tMix (K : PySem.W.Frag) (l : List (Value × Option Nat × (Addr → Value → Option Addr → TS))) (tb : WX → TS) (Wout : WX) : TS := fun D σ H => tb (wMix K Wout D l) D σ H
theorem ps_mix {body : List Stmt} {h0 : ExceptHandler} {hs : List ExceptHandler} {l : List (Value × Option Nat × (Addr → Value → Option Addr → TS))} {pos : Pos} {tb : WX → TS} {Wout : WX}
    (es : X.stack = X.env :: X.outer) (ef : X.env.frame = some X.env.locals) (nd : X.N.Nodup) (tk : Takes X Wout)
    (hb : ∀ (W : WX) (pn : List (Addr × Obj)) (xe : Value → Shared → Prop), Takes (X.tr pn xe) W → PassesOwn (model X.prog X.w) X.A X.env xe → PSs (X.tr pn xe) body (tb W))
    (cl : Cl X (h0 :: hs) l) : PS X (.Try body (h0 :: hs) [] [] pos) (tMix X.K l tb Wout) := by
  refine ⟨fun pins s σ H D I h => wpAny_Try_except ?_⟩
  have ok := I.ok
  have frs1 : X.A.frames = some (X.env :: X.outer) := by rw [ok.frames, es]
  have run := (hb (wMix X.K Wout D l) (X.pn ++ pins) (fun e z1 => wpAny (model X.prog X.w) X.A (noteFrame e X.env) (fun _ z2 => wpAny (model X.prog X.w) X.A (setFlight e none)
    (fun _ z3 => wpAny (model X.prog X.w) X.A (handleBy e X.env (h0 :: hs)) (SP X pins D) X.xe z3) X.xe z2) X.xe z1) (fun u t xx => ?_) PassesOwn.looking).run [] s σ H D (I.toTry _) h
  · refine wpAny_mono run (fun f z hz => ?_) (fun _ _ k => k)
    cases f
    · obtain ⟨σ', H', J, y⟩ := hz; exact wpAny_execs_nil ⟨σ', H', J.ofTry ok, y⟩
    · obtain ⟨σ', H', J, y⟩ := hz; exact ⟨σ', H', J.ofTry ok, y⟩
    · obtain ⟨σ', H', J, y⟩ := hz; exact ⟨σ', H', J.ofTry ok, y⟩
    · obtain ⟨v, σ', H', J, r, y⟩ := hz; exact ⟨v, σ', H', J.ofTry ok, r, y⟩
  obtain ⟨q, bs, sI, pins', τ, G, cls, d, rfl, J0, nb, u1, sk0, nq, os, ag, wish⟩ := xx
  have J : Inv X pins τ G sI := J0.ofTry ok
  have sk : Sky bs (X.env :: X.outer) q (Zc cls d) X.env.locals t.heap := by rw [← es]; exact sk0
  show wpAny (model X.prog X.w) X.A (noteFrame (.ref q) X.env) _ _ t
  refine Sky.land Zc.steady frs1 ef sk fun m fm u2 => ?_
  have Jm : Inv X pins τ G { t with heap := m } := J.landed nb fm.1 (u1.trans u2) os ag
  obtain ⟨om, vm, gm, zm, dm⟩ := fm.there
  have far : q ∉ L2.frs (X.env :: X.outer) := fun hm => by
    obtain ⟨_, o', e', hnf⟩ := fm.2.2.1.mem hm
    rw [gm] at e'; cases e'; exact hnf _ dm
  have qL : q ≠ X.env.locals := fun z => far (List.mem_filterMap.mpr ⟨X.env, List.mem_cons_self, by rw [ef, z]⟩)
  have qF : q ∉ X.fs := fun hm => by
    obtain ⟨e, he, y⟩ := List.mem_filterMap.mp hm
    exact far (List.mem_filterMap.mpr ⟨e, List.mem_cons_of_mem _ he, y⟩)
  have Sm := Jm.suite gm dm nq qL qF
  suffices go : ∀ (hs' : List ExceptHandler) (l' : List (Value × Option Nat × (Addr → Value → Option Addr → TS))), Cl X hs' l' → wMix X.K Wout D l' cls d τ G →
      wpAny (model X.prog X.w) X.A (handleBy (.ref q) X.env hs') (SP X pins D) X.xe { t with heap := m } from go _ _ cl wish
  have looks : PySem.W.Looks (model X.prog X.w) m (typeOf (.ref q)) cls := fun A Q E z k y => wpAny_typeOf_ref (k _ _ gm) (by rw [zm.1]; exact y)
  have nameIs : ∀ {x : Str} {c : Value} {p1 : Pos} {Q E : Value → Shared → Prop}, Names X x c → Q c { t with heap := m } →
      wpAny (model X.prog X.w) (X.A.mark (some (.ref q))) (eval (.Name x p1) X.env) Q E { t with heap := m } := fun nm y => by
    obtain ⟨hg, hdbg, hm | ⟨hm, hv, hnn⟩⟩ := nm
    · exact ld_glob (X := X.suite q ((q, om) :: (X.pn ++ pins))) Sm hg hm y hdbg
    · exact ld_blt (X := X.suite q ((q, om) :: (X.pn ++ pins))) Sm hg hm hv y hnn hdbg
  intro hs' l' hk
  induction hk with
  | nil =>
    intro wo
    refine wpAny_handleBy_nil ?_
    have fm' := fm
    obtain ⟨_, _, _, oe, vs, T, oT, _, g0, z0, d0, i0, _⟩ := fm'
    unfold PySem.passOn
    refine wpAny_bind (wpAny_field g0 d0 i0 ?_)
    rw [if_neg (show ¬ ((Value.ref T == Value.none) = true) by simp)]
    have out : wpAny (model X.prog X.w) X.A (setFlight (.ref q) X.env.frame) (fun _ z4 => wpAny (model X.prog X.w) X.A (throw (.ref q) : Sem Flow) (SP X pins D) X.xe z4) X.xe { t with heap := m } := by
      rw [ef]
      exact HandSPX.setFlight_upZ fm fun m4 hh4 u4 => wpAny_throw (tk _ _ ⟨q, bs, sI, pins, τ, G, cls, d, rfl, J, nb, (u1.trans u2).trans u4, .inr (.inr (by rw [es]; exact hh4)), nq, os, ag, wo⟩)
    first | exact wpAny_bind (wpAny_pure (wpAny_bind out)) | exact wpAny_bind out
  | @one x c ts b₀ su p1 p2 hs2 l2 nm k r ih =>
    intro ⟨b, hb1, yes, no⟩
    refine wpAny_handleBy_cons (codeAny_handlers_test ?_) (by intro y; cases y)
    refine nameIs nm ((PySem.W.exm_one (M := model X.prog X.w) Jm.kIn looks hb1).here ?_)
    cases b
    · show wpAny (model X.prog X.w) X.A (handleBy (.ref q) X.env hs2) _ _ _
      exact ih (no rfl)
    refine codeAny_handlers_suite (HandSPX.lands_againZ fm fun m4 f4 u4 => ?_)
    have J4 : Inv X pins τ G { t with heap := m4 } := J.landed nb f4.1 ((u1.trans u2).trans u4) os ag
    obtain ⟨o4, v4, g4, z4, d4⟩ := f4.there
    refine wpAny_mono ((k q o4 cls d (X.pn ++ pins) z4 ⟨_, d4⟩).run [] _ _ G _ (J4.suite g4 d4 nq qL qF) (yes rfl q nq)) (fun f z hz => ?_) (fun _ _ y => y.elim)
    cases f
    · obtain ⟨σ6, H6, S6, y⟩ := hz; exact ⟨_, _, S6.unsuite ok, y⟩
    · obtain ⟨σ6, H6, S6, y⟩ := hz; exact ⟨_, _, S6.unsuite ok, y⟩
    · obtain ⟨σ6, H6, S6, y⟩ := hz; exact ⟨_, _, S6.unsuite ok, y⟩
    · obtain ⟨v6, σ6, H6, S6, r6, y⟩ := hz; exact ⟨_, _, _, S6.unsuite ok, r6, y⟩
  | @asn x n i c ts b₀ su p1 p2 hs2 l2 hi hl nm k r ih =>
    intro ⟨b, hb1, yes, no⟩
    refine wpAny_handleBy_cons (codeAny_handlers_test ?_) (by intro y; cases y)
    refine nameIs nm ((PySem.W.exm_one (M := model X.prog X.w) Jm.kIn looks hb1).here ?_)
    cases b
    · show wpAny (model X.prog X.w) X.A (handleBy (.ref q) X.env hs2) _ _ _
      exact ih (no rfl)
    refine codeAny_handlers_suite_as (HandSPX.lands_againZ fm fun m4 f4 u4 => ?_)
    have J4 : Inv X pins τ G { t with heap := m4 } := J.landed nb f4.1 ((u1.trans u2).trans u4) os ag
    obtain ⟨o4, v4, g4, z4, d4⟩ := f4.there
    refine store_ok (X := X.suite q ((q, o4) :: (X.pn ++ pins))) (v := .ref q) (J4.suite g4 d4 nq qL qF) nd hi (.inl hl) rfl (fun z5 S5 => ?_) (.inr hl)
    refine wpAny_mono ((k q o4 cls d (X.pn ++ pins) z4 ⟨_, d4⟩).run [] z5 _ G _ S5 (yes rfl q nq)) (fun f z hz => ?_) (fun _ _ y => y.elim)
    have gone : ∀ {σ6 : L2.St} {H6 : Hp} {Q : Shared → Prop}, Inv (X.suite q ((q, o4) :: (X.pn ++ pins))) [] σ6 H6 z → (∀ z7, Inv X pins (σ6.set i none) H6 z7 → Q z7) →
        wpAny (model X.prog X.w) X.A (do bindName X.env n .none; unbindBehindTheSuite X.env n p2) (fun _ z7 => Q z7) X.xe z := fun S6 y => gone_ok (S6.unsuite ok) nd hi hl y
    cases f
    · obtain ⟨σ6, H6, S6, y⟩ := hz; exact gone S6 fun z7 J7 => ⟨_, _, J7, y⟩
    · obtain ⟨σ6, H6, S6, y⟩ := hz; exact gone S6 fun z7 J7 => ⟨_, _, J7, y⟩
    · obtain ⟨σ6, H6, S6, y⟩ := hz; exact gone S6 fun z7 J7 => ⟨_, _, J7, y⟩
    · obtain ⟨v6, σ6, H6, S6, r6, y⟩ := hz; exact gone S6 fun z7 J7 => ⟨_, _, _, J7, r6, y⟩
variable {K : PySem.W.Frag} {Wout : WX} {D : Ends} {σ : L2.St} {H : Hp} {cls c : Value} {d : Option Addr}
theorem x_mix {l : List (Value × Option Nat × (Addr → Value → Option Addr → TS))} {tb : WX → TS} (h : tb (wMix K Wout D l) D σ H) : tMix K l tb Wout D σ H := h
theorem x_seqMix {l : List (Value × Option Nat × (Addr → Value → Option Addr → TS))} {tb : WX → TS} {u : TS} (h : tMix K l tb Wout { D with nx := u D } σ H) : tSeq (tMix K l tb Wout) u D σ H := h
theorem x_mixT {o : Option Nat} {l : List (Value × Option Nat × (Addr → Value → Option Addr → TS))} {ts : Addr → Value → Option Addr → TS} (hx : PySem.W.exmOne K cls c = some true) (y : ∀ q, H q = none → inAs o ts q cls d D σ H) : wMix K Wout D ((c, o, ts) :: l) cls d σ H := ⟨true, hx, fun _ => y, fun z => nomatch z⟩
theorem x_mixF {o : Option Nat} {l : List (Value × Option Nat × (Addr → Value → Option Addr → TS))} {ts : Addr → Value → Option Addr → TS} (hx : PySem.W.exmOne K cls c = some false) (y : wMix K Wout D l cls d σ H) : wMix K Wout D ((c, o, ts) :: l) cls d σ H := ⟨false, hx, (fun z => nomatch z), fun _ => y⟩
theorem x_mixN (y : Wout cls d σ H) : wMix K Wout D [] cls d σ H := y
end
/-! list(reversed(x)), x a list -/
section
variable {prog : Program} {w : World} {A : Around} {E : Value → Shared → Prop} {s : Shared} {it l S : Addr} {items : Array Value}
theorem rev_ext {R : Result → Shared → Prop} {c₀ : Nat} (res : Value) (hh : A.handled = none) (hit : s.heap.IsRevIter it l ((items.size : Int) - 1)) (hl : s.heap.IsList l items) (n1 : l ≠ it) (n2 : S ≠ it) (n3 : S ≠ l) (hn : items.size ≤ sizeLine)
    (hS : s.heap.get? S = some { cls := .type "list", data := .seq #[] c₀ })
    (k : ∀ h' tk acc' c', (∀ b o, b ≠ S → b ≠ it → s.heap.get? b = some o → h'.get? b = some o) → h'.get? S = some { cls := .type "list", dict := none, data := .seq acc' c', slots := #[] } → ItemsOf (fun i v => items[items.size - 1 - i]? = some v) acc' items.size → R (.ok (.ret res)) { s with heap := h', toks := tk }) :
    wpAny (model prog w) A.in1 (Builtin.List.listExtendWith (.ref S) (.ref it) res)
      (fun fin t => match fin with | .done f => R (.ok f) t | .again c' => c'.quiet = true ∧ codeAny (model prog w) A c' R t) (fun e t => R (.error e) t) s := by
  have W := (Walks.listRev (prog := prog) (w := w) (A := A.in1) hh it l n1 items).toS
  have out : S ∉ [it, l] := by simp only [List.mem_cons, List.not_mem_nil, or_false, not_or]; exact ⟨n2, n3⟩
  have ty : s.TypeIs (.ref it) "list_reverseiterator" := Heap.IsRevIter.typeIs hit
  have e0 : ((items.size : Nat) : Int) - 1 - ((0 : Nat) : Int) = (items.size : Int) - 1 := by omega
  have apart : Builtin.List.listSameRef (.ref S) (.ref it) = false := by simp [Builtin.List.listSameRef, n2]
  unfold Builtin.List.listExtendWith
  refine wpAny_bind (wpAny_typeOf ty ?_)
  rw [if_neg (by rw [apart]; decide)]
  refine wpAny_bind (wpAny_pyIter_revIter hit (wpAny_bind (wpAny_holding ?_)))
  unfold Builtin.List.listLengthHint
  refine wpAny_bind (wpAny_specialOf ty RT.nolen_lri ?_)
  show wpAny (model prog w) A.in1 (specialOf (Value.ref it) (Str.ofString "__length_hint__") >>= _) _ _ s
  refine wpAny_bind (wpAny_specialOf ty RT.hint_lri ?_)
  generalize hid : ("list_reverseiterator.__length_hint__" : String) = name
  wp_delta
  rw [show splitId name = some ("list_reverseiterator", "__length_hint__") by subst hid; decide +kernel]
  subst hid
  refine wpAny_bind (wpAny_isInstance (b := true) ty (by rw [isSubtype_type]; kernel_rfl) (wpAny_pure ?_))
  rw [if_neg (by decide)]
  refine wpAny_pure ⟨plainId_quiet PySem.F.plain_extend_loop _, codeAny_extend_loopS W hn S out res items.size 0 _ #[] c₀ rfl (Nat.zero_le _) ⟨Nat.zero_le _, by rw [e0]; exact hit, hl⟩ hS (ItemsOf.nil _) fun t acc' c' hm hS' hacc => ?_⟩
  rw [Moved.eq_with hm]
  refine k t.heap t.toks acc' c' (fun b o b1 b2 e => hm.heap b o (fun z => ?_) e) hS' hacc
  rcases List.mem_cons.mp z with z | z
  · exact b1 z
  · exact b2 (List.mem_singleton.mp z)
end
section
variable {prog : Program} {w : World} {A : Around} {E : Value → Shared → Prop} {s : Shared} {it l : Addr} {items : Array Value}
theorem rev_init {S : Addr} {R : Result → Shared → Prop} (hh : A.handled = none) (hit : s.heap.IsRevIter it l ((items.size : Int) - 1)) (hl : s.heap.IsList l items) (n1 : l ≠ it) (n2 : S ≠ it) (n3 : S ≠ l) (hn : items.size ≤ sizeLine)
    (hS : s.heap.get? S = some { cls := .type "list", data := .seq #[] })
    (k : ∀ h' tk acc' c', (∀ b o, b ≠ S → b ≠ it → s.heap.get? b = some o → h'.get? b = some o) → h'.get? S = some { cls := .type "list", dict := none, data := .seq acc' c', slots := #[] } → ItemsOf (fun i v => items[items.size - 1 - i]? = some v) acc' items.size → R (.ok (.ret .none)) { s with heap := h', toks := tk }) :
    wpAny (model prog w) A.in1 (Builtin.«list.__init__» ⟨[.ref S, .ref it], []⟩)
      (fun fin t => match fin with | .done f => R (.ok f) t | .again c' => c'.quiet = true ∧ codeAny (model prog w) A c' R t) (fun e t => R (.error e) t) s := by
  show wpAny (model prog w) A.in1 (do let old ← Builtin.List.listItems (.ref S); Builtin.List.listUpdate (.ref S) (fun _ => #[]); letGo old.toList.reverse; Builtin.List.listExtendWith (.ref S) (.ref it) .none) _ _ s
  refine wpAny_bind ?_; unfold Builtin.List.listItems; refine wpAny_bind (wpAny_seqItems hS rfl (wpAny_pure ?_))
  show wpAny (model prog w) A.in1 (updateSeq S (fun _ => #[]) >>= fun _ => letGo (#[] : Array Value).toList.reverse >>= fun _ => Builtin.List.listExtendWith (.ref S) (.ref it) .none) _ _ s
  refine wpAny_bind (wpAny_updateSeq hS rfl (wpAny_bind (wpAny_letGo ?_)))
  have g2 := Heap.get?_update_self (Obj.mapSeq (fun _ => (#[] : Array Value))) hS rfl
  have rest : ∀ b o, b ≠ S → s.heap.get? b = some o → (s.heap.update S (Obj.mapSeq (fun _ => (#[] : Array Value)))).get? b = some o := fun b o hb e => (Heap.get?_update_other _ _ (Ne.symm hb)).trans e
  have hit2 : (s.heap.update S (Obj.mapSeq (fun _ => (#[] : Array Value)))).IsRevIter it l ((items.size : Int) - 1) := hit.at fun o e => rest _ o n2.symm e
  have hl2 : (s.heap.update S (Obj.mapSeq (fun _ => (#[] : Array Value)))).IsList l items := hl.at fun o e => rest _ o n3.symm e
  exact rev_ext (s := { s with heap := s.heap.update S (Obj.mapSeq (fun _ => (#[] : Array Value))) }) .none hh hit2 hl2 n1 n2 n3 hn g2 fun h' tk acc' c' hk hS' hacc => k h' tk acc' c' (fun b o b1 b2 e => hk b o b1 b2 (rest b o b1 e)) hS' hacc
theorem rev_list {Q : Value → Shared → Prop} (hh : A.handled = none) (hit : s.heap.IsRevIter it l ((items.size : Int) - 1)) (hl : s.heap.IsList l items) (n1 : l ≠ it) (hn : items.size ≤ sizeLine)
    (k : ∀ h' tk acc' c', (∀ b o, b ≠ it → s.heap.get? b = some o → h'.get? b = some o) → h'.get? s.heap.objs.size = some { cls := .type "list", dict := none, data := .seq acc' c', slots := #[] } → ItemsOf (fun i v => items[items.size - 1 - i]? = some v) acc' items.size → Q (.ref s.heap.objs.size) { s with heap := h', toks := tk }) :
    wpAny (model prog w) A (call (.type "list") [.ref it]) Q E s := by
  have n2 : s.heap.objs.size ≠ it := Nat.ne_of_gt (let ⟨_, e, _⟩ := hit; Heap.lt_size e)
  have n3 : s.heap.objs.size ≠ l := Nat.ne_of_gt (let ⟨_, e, _⟩ := hl; Heap.lt_size e)
  refine callType_codes (Q₁ := fun v t => v = .ref s.heap.objs.size ∧ t = { s with heap := s.heap.push { cls := .type "list", data := .seq #[] } }) PySem.F.called_list (PySem.F.typeCall_list_1 _) PySem.F.entry_list_init (code_list_new _ ⟨rfl, rfl⟩) fun v t h => ?_
  obtain ⟨rfl, rfl⟩ := h
  have g : (s.heap.push { cls := .type "list", data := .seq #[] }).get? s.heap.objs.size = some { cls := .type "list", data := .seq #[] } := Heap.get?_push_size _ rfl
  refine ⟨⟨_, g, rfl⟩, PySem.F.args_list_init_2 _ _, rev_init (A := A.in1) (s := { s with heap := s.heap.push { cls := .type "list", data := .seq #[] } }) hh (hit.at fun o e => Heap.get?_push_of_some _ e) (hl.push _) n1 n2 n3 hn g fun h' tk acc' c' hk hS' hacc => ?_⟩
  exact ⟨rfl, k h' tk acc' c' (fun b o hb e => hk b o (Nat.ne_of_lt (Heap.lt_size e)) hb (Heap.get?_push_of_some _ e)) hS' hacc⟩
end
section
variable {X : Cx}
def tListRev (K : PySem.W.Frag) (te : TE) : TE := fun σ H Q => te σ H fun v H1 => ∃ (a : Addr) (xs : List V), v = .ref a ∧ SqL K H1 a xs ∧ ∀ q, H1 q = none → Q (.ref q) (upd H1 q (.lst xs.reverse))
theorem pe_listRev {e : Expr} {te : TE} {p p2 pos pos2 : Pos} (hg : Gl X "list") (hm : X.mg "list" = none) (hg2 : Gl X "reversed") (hm2 : X.mg "reversed" = none) (he : PE X e te) (hc : X.calm = true := by rfl)
    (s1 : starEach [e] X.env = (false, eval e X.env) :: starEach [] X.env := by rfl)
    (s2 : starEach [.Call (.Name "reversed" p2) [e] [] pos2] X.env = (false, eval (.Call (.Name "reversed" p2) [e] [] pos2) X.env) :: starEach [] X.env := by rfl) :
    PE X (.Call (.Name "list" p) [.Call (.Name "reversed" p2) [e] [] pos2] [] pos) (tListRev X.K te) := by
  constructor; intro pins s σ H Q I h
  refine Call_ (ld_blt I hg hm boot_list (PyProof.Rows.callWith_type1 (args_cons (Call_ (ld_blt I hg2 hm2 PyProof.Rows.boot_reversed (PyProof.Rows.callWith_type1 (args_cons (thn (he.run pins s σ H _ I h) fun u t ⟨v, H1, I1, r1, q1⟩ => args_nil ?_) s1) s1 rfl))) s2) s2 rfl))
  obtain ⟨a, xs, ev, hq, q⟩ := q1; subst ev
  obtain rfl : u = Value.ref a := r1
  obtain ⟨its, rv, pl, hz⟩ := I1.list hq
  refine call_reversed_list pl.isList ?_; refine args_nil ?_
  obtain ⟨ol, hol, _⟩ := id pl.isList
  have n1 : a ≠ t.heap.objs.size := Nat.ne_of_lt (Heap.lt_size hol)
  have hn : its.toArray.size ≤ sizeLine := by rw [List.size_toArray, ← rv.length]; exact hz
  refine rev_list (s := { t with heap := t.heap.push (revObj a ((its.toArray.size : Int) - 1)) }) (I1.ok.hd hc) ⟨_, Heap.get?_push_size _ rfl, rfl, rfl⟩ (pl.isList.push _) n1 hn fun h' tk acc c' hk hS hi => ?_
  have sz : (t.heap.push (revObj a ((its.toArray.size : Int) - 1))).objs.size = t.heap.objs.size + 1 := by simp [Heap.push]
  have keep : ∀ b o, t.heap.get? b = some o → h'.get? b = some o := fun b o e => hk b o (Nat.ne_of_lt (Heap.lt_size e)) (Heap.get?_push_of_some _ e)
  refine ⟨.ref (t.heap.push (revObj a ((its.toArray.size : Int) - 1))).objs.size, upd H1 _ (.lst xs.reverse), I1.laid (t' := tk) keep (a := (t.heap.push (revObj a ((its.toArray.size : Int) - 1))).objs.size) (by rw [sz]; exact Nat.le_succ _) (show ObjOk X.prog X.w _ _ _ (.lst xs.reverse) from ⟨by rw [List.length_reverse]; exact hz, acc.toList, c', RT.vals_rev rv hi, ?_⟩), rfl, q _ (I1.hok.fresh (by rw [sz]; exact Nat.le_succ _))⟩
  rw [hS]
def lrK (K : PySem.W.Frag) (Q : VK) : V → Hp → Prop := fun v H1 => ∃ (a : Addr) (xs : List V), v = .ref a ∧ SqL K H1 a xs ∧ ∀ q, H1 q = none → Q (.ref q) (upd H1 q (.lst xs.reverse))
theorem x_listRev {K : PySem.W.Frag} {te : TE} {σ : L2.St} {H : Hp} {Q : VK} (h : te σ H (lrK K Q)) : tListRev K te σ H Q := h
theorem x_lrK {K : PySem.W.Frag} {H : Hp} {a : Addr} {xs : List V} {Q : VK} (h : SqL K H a xs) (q : New H Q (.lst xs.reverse)) : lrK K Q (.ref a) H := ⟨a, xs, rfl, h, q.mk⟩
end
/-! sorted pairs of numbers -/
theorem perm_sorted_eq {α : Type} {r : α → α → Prop} (anti : ∀ a b, r a b → r b a → a = b) : ∀ {l m : List α}, l.Perm m → l.Pairwise r → m.Pairwise r → l = m
  | [], m, h, _, _ => (List.nil_perm.mp h).symm
  | a :: l, [], h, _, _ => absurd h.symm (by intro z; exact absurd (List.nil_perm.mp z) (by simp))
  | a :: l, b :: m, h, h1, h2 => by
    have h1' := List.pairwise_cons.mp h1
    have h2' := List.pairwise_cons.mp h2
    have e : a = b := by
      rcases List.mem_cons.mp (h.mem_iff.mp List.mem_cons_self) with e | e
      · exact e
      rcases List.mem_cons.mp (h.symm.mem_iff.mp List.mem_cons_self) with e2 | e2
      · exact e2.symm
      · exact anti a b (h1'.1 b e2) (h2'.1 a e)
    subst e
    rw [perm_sorted_eq anti (List.Perm.cons_inv h) h1'.2 h2'.2]
def leP (a b : Int × Int) : Bool := !SrtO.lexB b a
def sortP (l : List (Int × Int)) : List (Int × Int) := l.mergeSort leP
theorem leP_iff {a b : Int × Int} : leP a b = true ↔ a.1 < b.1 ∨ (a.1 = b.1 ∧ a.2 ≤ b.2) := by
  unfold leP
  rw [Bool.not_eq_true', SrtO.lexB_no]
  omega
theorem sortP_pw (l : List (Int × Int)) : (sortP l).Pairwise fun a b => leP a b = true :=
  List.pairwise_mergeSort (fun a b c h1 h2 => by rw [leP_iff] at h1 h2 ⊢; omega) (fun a b => by
    rw [Bool.or_eq_true, leP_iff, leP_iff]; omega) l
theorem sortP_eq {ys l : List (Int × Int)} (hp : ys.Perm l) (hs : ys.Pairwise fun a b => leP a b = true) : ys = sortP l :=
  perm_sorted_eq (fun a b h1 h2 => by
    rw [leP_iff] at h1 h2
    exact Prod.ext (by omega) (by omega)) (hp.trans (List.mergeSort_perm l leP).symm) hs (sortP_pw l)
theorem sortP_perm (l : List (Int × Int)) : (sortP l).Perm l := List.mergeSort_perm l leP
/-- a list of tuples of two numbers each -/
def PairL (H : Hp) (xs : List V) (l : List (Int × Int)) : Prop := xs.length = l.length ∧ ∀ (i : Nat) x e, xs[i]? = some x → l[i]? = some e → ∃ t, x = .ref t ∧ H t = some (.tup [.int e.1, .int e.2])
theorem PairL.mono {H H' : Hp} {xs : List V} {l : List (Int × Int)} (s : TupS H H') (h : PairL H xs l) : PairL H' xs l := ⟨h.1, fun i x e h1 h2 => by
  obtain ⟨t, q, h⟩ := h.2 i x e h1 h2
  exact ⟨t, q, s _ _ h⟩⟩
theorem PairL.nil {H : Hp} : PairL H [] [] := ⟨rfl, fun i x e h _ => by simp at h⟩
theorem PairL.snoc {H : Hp} {xs : List V} {l : List (Int × Int)} {v : V} {e : Int × Int} (h : PairL H xs l) (hv : ∃ t, v = .ref t ∧ H t = some (.tup [.int e.1, .int e.2])) : PairL H (xs ++ [v]) (l ++ [e]) := by
  refine ⟨by simp [h.1], fun i x y h1 h2 => ?_⟩
  by_cases hi : i < xs.length
  · rw [List.getElem?_append_left hi] at h1
    rw [List.getElem?_append_left (h.1 ▸ hi)] at h2
    exact h.2 i x y h1 h2
  · have e1 : i = xs.length := by
      have := (List.getElem?_eq_some_iff.mp h1).1
      simp at this
      omega
    subst e1
    rw [List.getElem?_append_right (Nat.le_refl _)] at h1
    rw [h.1, List.getElem?_append_right (Nat.le_refl _)] at h2
    simp at h1 h2
    subst h1 h2
    exact hv
def pairV (H : Hp) : V → Int × Int
  | .ref t => match H t with
    | some (.tup [.int i, .int j]) => (i, j)
    | _ => (0, 0)
  | _ => (0, 0)
theorem pairV_ref {H : Hp} {t : Addr} {i j : Int} (h : H t = some (.tup [.int i, .int j])) : pairV H (.ref t) = (i, j) := by
  unfold pairV
  simp only [h]
theorem PairL.map {H : Hp} {xs : List V} {l : List (Int × Int)} (h : PairL H xs l) : xs.map (pairV H) = l := by
  refine List.ext_getElem? fun i => ?_
  rw [List.getElem?_map]
  cases e1 : xs[i]? with
  | none =>
    have := h.1
    rw [List.getElem?_eq_none_iff] at e1
    rw [List.getElem?_eq_none (by omega)]
    rfl
  | some x =>
    have hl := (List.getElem?_eq_some_iff.mp e1).1
    obtain ⟨e, e2⟩ : ∃ e, l[i]? = some e := ⟨_, List.getElem?_eq_getElem (by have := h.1; omega)⟩
    obtain ⟨t, rfl, ht⟩ := h.2 i x e e1 e2
    rw [e2, Option.map_some, pairV_ref ht]
theorem PairL.mem {H : Hp} {xs : List V} {l : List (Int × Int)} (h : PairL H xs l) {x : V} (hx : x ∈ xs) : ∃ t, x = .ref t ∧ H t = some (.tup [.int (pairV H x).1, .int (pairV H x).2]) := by
  obtain ⟨i, e1⟩ := List.mem_iff_getElem?.mp hx
  have hl := (List.getElem?_eq_some_iff.mp e1).1
  obtain ⟨e, e2⟩ : ∃ e, l[i]? = some e := ⟨_, List.getElem?_eq_getElem (by have := h.1; omega)⟩
  obtain ⟨t, rfl, ht⟩ := h.2 i x e e1 e2
  exact ⟨t, rfl, by rw [pairV_ref ht]; exact ht⟩
/-! sorted tuples of whole numbers, fewer than 64 -/
theorem code_cons {B d e : Int} {r q : List Int} (hl : r.length = q.length) (h1 : TS.Bd B (d :: r)) (h2 : TS.Bd B (e :: q)) (h : TS.code B (d :: r) ≤ TS.code B (e :: q)) : d < e ∨ (d = e ∧ TS.code B r ≤ TS.code B q) := by
  rcases Int.lt_trichotomy d e with z | z | z
  · exact .inl z
  · refine .inr ⟨z, ?_⟩
    subst z
    by_cases y : TS.code B q < TS.code B r
    · have := (TS.code_same (B := B) (d := d) (r := q) (q := r) hl.symm).mpr y
      omega
    · exact Int.not_lt.mp y
  · have := TS.code_lt (B := B) hl.symm h2.tail h1.tail z
    omega
/-- a list of tuples of whole numbers -/
def TupL (H : Hp) (xs : List V) (ls : List (List Int)) : Prop := xs.length = ls.length ∧ ∀ (i : Nat) x e, xs[i]? = some x → ls[i]? = some e → ∃ t, x = .ref t ∧ H t = some (.tup (e.map V.int))
theorem TupL.mono {H H' : Hp} {xs : List V} {l : List (List Int)} (s : TupS H H') (h : TupL H xs l) : TupL H' xs l := ⟨h.1, fun i x e h1 h2 => by
  obtain ⟨t, q, h⟩ := h.2 i x e h1 h2
  exact ⟨t, q, s _ _ h⟩⟩
theorem TupL.nil {H : Hp} : TupL H [] [] := ⟨rfl, fun i x e h _ => by simp at h⟩
theorem TupL.snoc {H : Hp} {xs : List V} {l : List (List Int)} {v : V} {e : List Int} (h : TupL H xs l) (hv : ∃ t, v = .ref t ∧ H t = some (.tup (e.map V.int))) : TupL H (xs ++ [v]) (l ++ [e]) := by
  refine ⟨by simp [h.1], fun i x y h1 h2 => ?_⟩
  by_cases hi : i < xs.length
  · rw [List.getElem?_append_left hi] at h1
    rw [List.getElem?_append_left (h.1 ▸ hi)] at h2
    exact h.2 i x y h1 h2
  · have e1 : i = xs.length := by
      have := (List.getElem?_eq_some_iff.mp h1).1
      simp at this
      omega
    subst e1
    rw [List.getElem?_append_right (Nat.le_refl _)] at h1
    rw [h.1, List.getElem?_append_right (Nat.le_refl _)] at h2
    simp at h1 h2
    subst h1 h2
    exact hv
theorem TupL.take {H : Hp} {ws : List V} {is : List (List Int)} (h : TupL H ws is) (m : Nat) : TupL H (ws.take m) (is.take m) := ⟨by rw [List.length_take, List.length_take, h.1], fun i x e h1 h2 => by
  rw [List.getElem?_take] at h1 h2
  split at h1
  · rename_i hi
    rw [if_pos hi] at h2
    exact h.2 i x e h1 h2
  · cases h1⟩
def vInt : V → Int
  | .int n => n
  | _ => 0
theorem vInt_map (e : List Int) : (e.map V.int).map vInt = e := by
  rw [List.map_map]
  exact List.map_id'' (fun _ => rfl) e
def tupV (H : Hp) : V → List Int
  | .ref t => match H t with
    | some (.tup vs) => vs.map vInt
    | _ => []
  | _ => []
theorem tupV_ref {H : Hp} {t : Addr} {e : List Int} (h : H t = some (.tup (e.map V.int))) : tupV H (.ref t) = e := by
  unfold tupV
  simp only [h]
  exact vInt_map e
theorem TupL.get {H : Hp} {xs : List V} {l : List (List Int)} (h : TupL H xs l) {i : Nat} {x : V} (hi : xs[i]? = some x) : ∃ e t, l[i]? = some e ∧ x = .ref t ∧ H t = some (.tup (e.map V.int)) := by
  have hl := (List.getElem?_eq_some_iff.mp hi).1
  obtain ⟨e, e2⟩ : ∃ e, l[i]? = some e := ⟨_, List.getElem?_eq_getElem (by have := h.1; omega)⟩
  obtain ⟨t, rfl, ht⟩ := h.2 i x e hi e2
  exact ⟨e, t, e2, rfl, ht⟩
theorem TupL.map {H : Hp} {xs : List V} {l : List (List Int)} (h : TupL H xs l) : xs.map (tupV H) = l := by
  refine List.ext_getElem? fun i => ?_
  rw [List.getElem?_map]
  cases e1 : xs[i]? with
  | none =>
    have := h.1
    rw [List.getElem?_eq_none_iff] at e1
    rw [List.getElem?_eq_none (by omega)]
    rfl
  | some x =>
    obtain ⟨e, t, e2, rfl, ht⟩ := h.get e1
    rw [e2, Option.map_some, tupV_ref ht]
theorem TupL.mem {H : Hp} {xs : List V} {l : List (List Int)} (h : TupL H xs l) {x : V} (hx : x ∈ xs) : tupV H x ∈ l ∧ ∃ t, x = .ref t ∧ H t = some (.tup ((tupV H x).map V.int)) := by
  obtain ⟨i, e1⟩ := List.mem_iff_getElem?.mp hx
  obtain ⟨e, t, e2, rfl, ht⟩ := h.get e1
  rw [tupV_ref ht]
  exact ⟨List.mem_of_getElem? e2, t, rfl, ht⟩
theorem x_sortT {K : PySem.W.Frag} {H : Hp} {a : Addr} {xs : List V} {ls : List (List Int)} {d : Nat} {B : Int} {Q : VK} (h : SqL K H a xs) (hx : TupL H xs ls) (hn : ls.length < 64) (hb : ∀ e ∈ ls, e.length = d ∧ TS.Bd B e)
    (q : ∀ p ys ls' H', H p = none → Same H H' → H' p = some (.lst ys) → TupL H' ys ls' → ls'.Perm ls → ls'.Pairwise (fun a b => TS.code B a ≤ TS.code B b) → Q (.ref p) H') : rSortU K d B [.ref a] H Q := by
  have tu : ∀ x ∈ xs, TupI K H x (tupV H x) := fun x hm => by
    obtain ⟨_, t, e, ht⟩ := hx.mem hm
    exact ⟨t, e, SqT.of ht⟩
  refine ⟨a, xs, rfl, h, by rw [hx.1]; exact hn, fun x hm => ?_, fun ys p hp hs hpn => ?_⟩
  · obtain ⟨hi, t, e, ht⟩ := hx.mem hm
    exact ⟨tupV H x, ⟨t, e, SqT.of ht⟩, hb _ hi⟩
  · refine q p ys (ys.map (tupV H)) _ hpn (same_upd hpn) upd_same ⟨by rw [List.length_map], fun i x e h1 h2 => ?_⟩ ?_ ?_
    · rw [List.getElem?_map, h1] at h2
      simp at h2
      subst h2
      obtain ⟨_, t, e1, ht⟩ := hx.mem (hp.mem_iff.mp (List.mem_of_getElem? h1))
      exact ⟨t, e1, same_upd hpn _ _ ht⟩
    · rw [← hx.map]
      exact hp.map _
    · refine List.pairwise_map.mpr (List.Pairwise.imp_of_mem (fun {x y} hx' hy' z => ?_) hs)
      exact z _ _ (tu x (hp.mem_iff.mp hx')) (tu y (hp.mem_iff.mp hy'))
/-- sorted(d), d a dict of fewer than 64 numbers -/
def rSDI : List V → Hp → VK → Prop := fun xs H Q => ∃ (a : Addr) (kvs : List (L2.Key × V)) (ks : List Int), xs = [.ref a] ∧ Rd H a (.dK kvs) ∧ kvs.map (·.1) = ks.map Sum.inl ∧ ks.length < 64 ∧
    ∀ (ys : List Int) (p : Addr), ys.Perm ks → ys.Pairwise (· ≤ ·) → H p = none → Q (.ref p) (upd H p (.lst (ys.map V.int)))
def uSorted (K : PySem.W.Frag) : List V → Hp → VK → Prop := fun xs H Q => rSorted K xs H Q ∨ (rSortedPO K xs H Q ∨ (rSortedI K xs H Q ∨ rSDI xs H Q))
theorem cr_usorted {X : Cx} (hc : X.calm = true := by rfl) : CallR X (.builtin "sorted") (uSorted X.K) := cr_sorted.or (cr_sortedPO.or (cr_sortedI.or (call_sortedDI hc)))
theorem x_sortP {K : PySem.W.Frag} {H : Hp} {a : Addr} {xs : List V} {l : List (Int × Int)} {Q : VK} (h : SqL K H a xs) (hx : PairL H xs l) (q : ∀ p ys H', H p = none → Same H H' → H' p = some (.lst ys) → PairL H' ys (sortP l) → Q (.ref p) H') : uSorted K [.ref a] H Q := by
  refine .inr (.inl ⟨a, xs, pairV H, rfl, h, fun x m => hx.mem m, fun ys p hs hb hp => ?_⟩)
  have hm : ys.map (pairV H) = sortP l := sortP_eq (by rw [← hx.map]; exact hb.perm.map _) (List.pairwise_map.mpr (hs.imp fun {a b} z => by
    unfold leP
    rw [show SrtO.lexB (pairV H b) (pairV H a) = false from z]
    rfl))
  refine q p ys _ hp (same_upd hp) upd_same ⟨by rw [← hm, List.length_map], fun i x e h1 h2 => ?_⟩
  rw [← hm, List.getElem?_map, h1] at h2
  simp at h2
  subst h2
  obtain ⟨t, e1, ht⟩ := hx.mem (hb.perm.mem_iff.mp (List.mem_of_getElem? h1))
  exact ⟨t, e1, same_upd hp _ _ ht⟩
/-! sorted numbers -/
def sortZ (l : List Int) : List Int := l.mergeSort fun a b => decide (a ≤ b)
theorem sortZ_pw (l : List Int) : (sortZ l).Pairwise (· ≤ ·) :=
  (List.pairwise_mergeSort (le := fun a b : Int => decide (a ≤ b)) (fun a b c h1 h2 => by simp only [decide_eq_true_eq] at h1 h2 ⊢; omega) (fun a b => by
    simp only [Bool.or_eq_true, decide_eq_true_eq]; omega) l).imp fun h => of_decide_eq_true h
theorem sortZ_perm (l : List Int) : (sortZ l).Perm l := List.mergeSort_perm l _
theorem sortZ_eq {ys l : List Int} (hp : ys.Perm l) (hs : ys.Pairwise (· ≤ ·)) : ys = sortZ l :=
  perm_sorted_eq (fun a b h1 h2 => Int.le_antisymm h1 h2) (hp.trans (sortZ_perm l).symm) hs (sortZ_pw l)
theorem x_sortI {K : PySem.W.Frag} {H : Hp} {a : Addr} {ns : List Int} {Q : VK} (h : SqL K H a (ns.map V.int)) (q : ∀ p H', H p = none → Same H H' → H' p = some (.lst ((sortZ ns).map V.int)) → Q (.ref p) H') : uSorted K [.ref a] H Q :=
  .inr (.inr (.inl ⟨a, ns, rfl, h, fun ys p hp hs hn => by rw [sortZ_eq hp hs]; exact q p _ hn (same_upd hn) upd_same⟩))
theorem x_sortD {K : PySem.W.Frag} {H : Hp} {a : Addr} {kvs : List (L2.Key × V)} {ks : List Int} {Q : VK} (h : H a = some (.dK kvs)) (hk : kvs.map (·.1) = ks.map Sum.inl) (hl : ks.length < 64) (q : ∀ p H', H p = none → Same H H' → H' p = some (.lst ((sortZ ks).map V.int)) → Q (.ref p) H') : uSorted K [.ref a] H Q :=
  .inr (.inr (.inr ⟨a, kvs, ks, rfl, .inl h, hk, hl, fun ys p hp hs hn => by rw [sortZ_eq hp hs]; exact q p _ hn (same_upd hn) upd_same⟩))
/-! a comprehension over the keys of a dict -/
section
variable {σ : L2.St} {H : Hp} {g : TG} {tt : TT} {te td : TE} {vs : List Nat} {a : Addr} {Q : VK} {kvs : List (L2.Key × V)} {od : Obj}
def lcKy (g : TG) (tt : TT) (te : TE) (vs : List Nat) (σ : L2.St) (Q : VK) : V → Hp → Prop := fun x H1 => ∃ d o, x = .ref d ∧ ((∃ kvs, H1 d = some (.frz o (.dK kvs)) ∧ lcK (Itk d o kvs) g tt te vs σ Q H1) ∨ ∃ kvs, H1 d = some (.frz o (.dT kvs)) ∧ lcK (Itkt d o kvs) g tt te vs σ Q H1)
theorem x_lcKyK (hq : H a = some (.frz od (.dK kvs))) (A : Nat → List V → Hp → Prop) (hA : ∀ i acc H H', TupS H H' → A i acc H → A i acc H') (hn : kvs.length < sizeLine) (h0 : A 0 [] H)
    (hs : ∀ i k v acc H', kvs[i]? = some (k, v) → Same H H' → A i acc H' → LcTurn g tt te vs σ A i (kV k) acc H')
    (hd : ∀ p acc H', H p = none → Same H H' → H' p = some (.lst acc) → A kvs.length acc H' → Q (.ref p) H') : lcKy g tt te vs σ Q (.ref a) H :=
  ⟨a, od, rfl, .inl ⟨kvs, hq, lc_gen (fun i x => ∃ k v, kvs[i]? = some (k, v) ∧ x = kV k) A hA hn h0 (fun Pv Dr hP p0 ht hd => lc_it walk_keys Pv p0 (fun i H' _ p => hP i H' p _ _ hq) (fun i x H' H'' hi p y => by
    obtain ⟨rfl, k, v, e, rfl⟩ := y
    exact ht i _ _ ⟨k, v, e, rfl⟩ p) hd) (fun i x acc H' ⟨k, v, e, hx⟩ s ha => by rw [hx]; exact hs i k v acc H' e s ha) (fun i x ⟨k, v, e, _⟩ => (List.getElem?_eq_some_iff.mp e).1) hd⟩⟩
theorem x_lcDK (h : H a = some (.dK kvs)) (htd : ∀ (od : Obj) (Q' : VK), Q' (.ref a) (upd H a (.frz od (.dK kvs))) → td σ (upd H a (.frz od (.dK kvs))) Q') (A : Nat → List V → Hp → Prop) (hA : ∀ i acc H H', TupS H H' → A i acc H → A i acc H') (hn : kvs.length < sizeLine) (h0 : A 0 [] H)
    (hs : ∀ i k v acc H', kvs[i]? = some (k, v) → Off [a] H H' → (∃ od, H' a = some (.frz od (.dK kvs))) → A i acc H' → LcTurn g tt te vs σ A i (kV k) acc H')
    (hd : ∀ p acc H', H p = none → Same H H' → H' p = some (.lst acc) → A kvs.length acc H' → Q (.ref p) H') : tLockE (tLc (iKeys td) g tt te vs) σ H Q := by
  refine ⟨a, .dK kvs, h, trivial, fun od => htd od _ ?_⟩
  have tu : TupS H (upd H a (.frz od (.dK kvs))) := TupS.upd h (fun _ z => by cases z)
  have key := x_lcKyK (g := g) (tt := tt) (te := te) (vs := vs) (σ := σ) (Q := fun v H' => H' a = some (.frz od (.dK kvs)) ∧ Q v (upd H' a (.dK kvs))) (H := upd H a (.frz od (.dK kvs))) (od := od) upd_same A hA hn (hA _ _ _ _ tu h0) (fun i k v acc H' e s ha => hs i k v acc H' e (fun b o nb eb => s b o (by rw [upd_ne (fun z => nb (by rw [z]; exact List.mem_singleton.mpr rfl))]; exact eb)) ⟨od, s _ _ upd_same⟩ ha) (fun p acc H' hp s hn ha => by
  refine ⟨s _ _ upd_same, ?_⟩
  have hpa : p ≠ a := fun z => by
    rw [z, upd_same] at hp
    cases hp
  rw [upd_ne hpa] at hp
  refine hd p acc _ hp (fun b o e => ?_) (by rw [upd_ne hpa]; exact hn) (hA _ _ _ _ (TupS.upd (s _ _ upd_same) (fun _ z => by cases z)) ha)
  by_cases hb : b = a
  · rw [hb, h] at e
    rw [hb, upd_same]
    exact e
  · rw [upd_ne hb]
    exact s b o (by rw [upd_ne hb]; exact e))
  exact key
theorem x_dgIf {n : Int} {v : V} (h : ∃ od, H a = some (.frz od (.dK kvs))) (hv : valV kvs (.inl n) = some v) (q : Q v H) : dgK (.ref a) Q (.int n) H := by
  obtain ⟨od, h⟩ := h
  exact ⟨a, v, rfl, .inl ⟨kvs, .inl n, .inr ⟨od, h⟩, rfl, by rw [hv]⟩, q⟩
end
/-! min of a list of pairs of numbers -/
section
variable {prog : Program} {w : World} {A : Around} {R : Result → Shared → Prop} {I : Addr} {fp wr : List Addr} {n : Nat} {P : Nat → Value → Prop} {St : Nat → Heap → Prop}
/-- what stays but for the walk's own and the list at S -/
def KeepsB (wr : List Addr) (S : Addr) (h0 h : Heap) : Prop := ∀ b o, b ∉ wr → b ≠ S → h0.get? b = some o → h.get? b = some o
theorem KeepsB.more {S : Addr} {h0 h h2 : Heap} (a : KeepsB wr S h0 h) (k : ∀ b o, b ∉ wr → h.get? b = some o → h2.get? b = some o) : KeepsB wr S h0 h2 := fun b o n1 n2 e => k b o n1 (a b o n1 n2 e)
theorem KeepsB.put {S : Addr} {h0 h : Heap} {f : Obj → Obj} (a : KeepsB wr S h0 h) : KeepsB wr S h0 (h.update S f) := fun b o n1 n2 e => (Heap.get?_update_other _ _ (Ne.symm n2)).trans (a b o n1 n2 e)
theorem min_turns (W : Walks prog w A.in1 I fp wr n P St) (bt : Nat → Nat → Bool) (S : Addr) (far : S ∉ fp) (kw : List (Str × Value)) (h0 : Heap)
    (less : ∀ (t : Shared) (i j : Nat) (x y : Value) (Q E : Value → Shared → Prop), KeepsB wr S h0 t.heap → P i x → P j y → Q (.bool (bt i j)) t → wpAny (model prog w) A.in1 (richCompare .Lt x y) Q E t) :
    ∀ (m j : Nat) (s : Shared) (best : Value) (c : Nat), n - (j + 1) = m → j + 1 ≤ n → St (j + 1) s.heap → P (argBest bt j) best → KeepsB wr S h0 s.heap → s.heap.get? S = some { cls := .type "list", dict := none, data := .seq #[best, best] c, slots := #[] } →
      (∀ v h' tk, P (argBest bt (n - 1)) v → KeepsB wr S h0 h' → R (.ok (.ret v)) { s with heap := h', toks := tk }) → codeAny (model prog w) A (.builtin "min.loop" ⟨[.ref I, .none, .ref S], kw⟩) R s := by
  have farw : S ∉ wr := fun h => far (W.sub _ h)
  have nm : (toString "min" ++ toString ".loop" : String) = "min.loop" := by decide
  intro m; induction m with
  | zero =>
    intro j s best c hm hj hst hb kp hS fin
    have hin : j + 1 = n := by omega
    refine codeAny_builtin PySem.F.entry_min_loop ?_; rw [Around.under_plainId PySem.F.plain_min_loop _]
    show wpAny _ A.in1 (seqItems? (Value.ref S) >>= _) _ _ s
    refine wpAny_bind (wpAny_seqItems hS rfl ?_); show wpAny _ A.in1 (tryCatch (pyNext (Value.ref I)) _ >>= _) _ _ s
    refine wpAny_bind (wpAny_tryCatch (W.done s _ _ (hin ▸ hst) fun h2 tk2 k2 => ?_)); have hS2 := k2 S _ farw hS
    show wpAny _ A.in1 (updateSeq S (fun _ => #[]) >>= _) _ _ { s with heap := h2, toks := tk2 }
    refine wpAny_bind ?_; refine wpAny_updateSeq hS2 rfl (wpAny_bind (wpAny_letGo (wpAny_pure (fin best _ tk2 ?_ (kp.more k2).put))))
    rw [← hin]; exact hb
  | succ m ih =>
    intro j s best c hm hj hst hb kp hS fin
    have hlt : j + 1 < n := by omega
    refine codeAny_builtin PySem.F.entry_min_loop ?_; rw [Around.under_plainId PySem.F.plain_min_loop _]
    show wpAny _ A.in1 (seqItems? (Value.ref S) >>= _) _ _ s
    refine wpAny_bind (wpAny_seqItems hS rfl ?_); show wpAny _ A.in1 (tryCatch (pyNext (Value.ref I)) _ >>= _) _ _ s
    refine wpAny_bind (wpAny_tryCatch (W.item (j + 1) s _ _ hlt hst fun x h2 tk2 hx hst2 k2 => ?_)); have hS2 := k2 S _ farw hS
    have kp2 := kp.more k2
    show wpAny _ A.in1 (tryCatch (holding [x, x] (richCompare .Lt x best >>= _)) _ >>= _) _ _ { s with heap := h2, toks := tk2 }
    refine wpAny_bind (wpAny_tryCatch (wpAny_holding (wpAny_bind (less _ (j + 1) (argBest bt j) x best _ _ kp2 hx hb ?_)))); refine wpAny_bind (wpAny_holding (wpAny_truthy_bool ?_))
    refine wpAny_bind (wpAny_letGo (wpAny_pure ?_)); cases he : bt (j + 1) (argBest bt j) with
    | true =>
      simp only [if_true]; refine wpAny_bind ?_; refine wpAny_updateSeq hS2 rfl (wpAny_bind (wpAny_letGo ?_)); rw [nm]
      refine wpAny_pure ⟨plainId_quiet PySem.F.plain_min_loop _, ih (j + 1) _ x _ (by omega) hlt (W.frame _ _ _ hst2 fun b hbf o e => ?_) ?_ kp2.put (Heap.get?_update_self _ hS2 rfl) fin⟩
      · exact (Heap.get?_update_other _ _ (fun z : S = b => far (z ▸ hbf))).trans e
      · simp only [argBest, he, if_true]; exact hx
    | false =>
      simp only [Bool.false_eq_true, if_false]; refine wpAny_bind (wpAny_letGo ?_); rw [nm]
      refine wpAny_pure ⟨plainId_quiet PySem.F.plain_min_loop _, ih (j + 1) _ best c (by omega) hlt hst2 ?_ kp2 hS2 fin⟩
      simp only [argBest, he, Bool.false_eq_true, if_false]; exact hb
theorem min_begin (W : Walks prog w A.in1 I fp wr n P St) (bt : Nat → Nat → Bool) (S : Addr) (far : S ∉ fp) (kw : List (Str × Value)) {s : Shared} {c : Nat}
    (less : ∀ (t : Shared) (i j : Nat) (x y : Value) (Q E : Value → Shared → Prop), KeepsB wr S s.heap t.heap → P i x → P j y → Q (.bool (bt i j)) t → wpAny (model prog w) A.in1 (richCompare .Lt x y) Q E t)
    (hn : 0 < n) (hst : St 0 s.heap) (hS : s.heap.get? S = some { cls := .type "list", dict := none, data := .seq #[] c, slots := #[] })
    (fin : ∀ v h' tk, P (argBest bt (n - 1)) v → KeepsB wr S s.heap h' → R (.ok (.ret v)) { s with heap := h', toks := tk }) : codeAny (model prog w) A (.builtin "min.loop" ⟨[.ref I, .none, .ref S], kw⟩) R s := by
  have farw : S ∉ wr := fun h => far (W.sub _ h)
  have nm : (toString "min" ++ toString ".loop" : String) = "min.loop" := by decide
  have kp : KeepsB wr S s.heap s.heap := fun _ _ _ _ e => e
  refine codeAny_builtin PySem.F.entry_min_loop ?_; rw [Around.under_plainId PySem.F.plain_min_loop _]
  show wpAny _ A.in1 (seqItems? (Value.ref S) >>= _) _ _ s
  refine wpAny_bind (wpAny_seqItems hS rfl ?_); show wpAny _ A.in1 (tryCatch (pyNext (Value.ref I)) _ >>= _) _ _ s
  refine wpAny_bind (wpAny_tryCatch (W.item 0 s _ _ hn hst fun x h2 tk2 hx hst2 k2 => ?_)); have hS2 := k2 S _ farw hS
  show wpAny _ A.in1 (updateSeq S (fun _ => #[x, x]) >>= _) _ _ { s with heap := h2, toks := tk2 }
  refine wpAny_bind ?_; refine wpAny_updateSeq hS2 rfl ?_; rw [nm]
  refine wpAny_pure ⟨plainId_quiet PySem.F.plain_min_loop _, min_turns W bt S far kw s.heap less _ 0 _ x _ rfl hn (W.frame _ _ _ hst2 fun b hbf o e => ?_) hx (kp.more k2).put (Heap.get?_update_self _ hS2 rfl) fin⟩
  exact (Heap.get?_update_other _ _ (fun z : S = b => far (z ▸ hbf))).trans e
end
section
variable {prog : Program} {w : World} {A : Around} {E : Value → Shared → Prop} {s : Shared}
/-- min(l), l a list, where comparing needs the heap -/
theorem min_listH {l : Addr} {items : Array Value} {Q : Value → Shared → Prop} (bt : Nat → Nat → Bool) (hh : A.handled = none) (hl : s.heap.IsList l items) (hn : 0 < items.size)
    (less : ∀ (t : Shared) (i j : Nat) (x y : Value) (Q E : Value → Shared → Prop), (∀ b o, s.heap.get? b = some o → t.heap.get? b = some o) → items[i]? = some x → items[j]? = some y → Q (.bool (bt i j)) t → wpAny (model prog w) A.in1 (richCompare .Lt x y) Q E t)
    (fin : ∀ v h' tk, items[argBest bt (items.size - 1)]? = some v → (∀ b o, s.heap.get? b = some o → h'.get? b = some o) → Q v { s with heap := h', toks := tk }) : wpAny (model prog w) A (call (.builtin "min") [.ref l]) Q E s := by
  have nm : (toString "min" ++ toString ".loop" : String) = "min.loop" := by decide
  have nl : l ≠ s.heap.objs.size := Nat.ne_of_lt (by obtain ⟨o, e, _⟩ := id hl; exact Heap.lt_size e)
  refine call_function_tree PySem.F.kind_min PySem.F.plain_min PySem.F.entry_min (PySem.F.args_min1 _) ?_
  show wpAny _ A.in1 (Builtin.Builtins.bindParams "min" ["key", "default"] 0 ⟨[], []⟩ >>= _) _ _ s
  refine wpAny_bind (wpAny_of_eq (show Builtin.Builtins.bindParams "min" ["key", "default"] 0 ⟨[], []⟩ = pure [none, none] from rfl) (wpAny_bind (wpAny_pure (wpAny_bind (wpAny_pyIter_list hl ?_)))))
  refine wpAny_bind (wpAny_newObj_type ?_); rw [nm]
  have hit : (s.heap.push { cls := .type "list_iterator", data := .fields #[.ref l, .int 0 0] }).IsListIter s.heap.objs.size l 0 := ⟨_, Heap.get?_push_size _ rfl, rfl, rfl⟩
  have sz : (s.heap.push { cls := .type "list_iterator", data := .fields #[.ref l, .int 0 0] }).objs.size = s.heap.objs.size + 1 := by simp [Heap.push]
  have old : ∀ {h : Heap}, KeepsB [s.heap.objs.size] (s.heap.push { cls := .type "list_iterator", data := .fields #[.ref l, .int 0 0] }).objs.size ((s.heap.push { cls := .type "list_iterator", data := .fields #[.ref l, .int 0 0] }).push { cls := .type "list", data := .seq #[] }) h → ∀ b o, s.heap.get? b = some o → h.get? b = some o := fun k b o e =>
    k b o (by rw [List.mem_singleton]; exact Nat.ne_of_lt (Heap.lt_size e)) (by rw [sz]; exact Nat.ne_of_lt (Nat.lt_succ_of_lt (Heap.lt_size e))) (Heap.get?_push_of_some _ (Heap.get?_push_of_some _ e))
  refine wpAny_pure ⟨plainId_quiet PySem.F.plain_min_loop _, min_begin (Walks.list (A := A.in1) hh s.heap.objs.size l nl items) bt (s.heap.push { cls := .type "list_iterator", data := .fields #[.ref l, .int 0 0] }).objs.size ?_ [] (fun t i j x y Q E k => less t i j x y Q E (old k)) hn
    ⟨hit.at fun o e => Heap.get?_push_of_some _ e, (hl.push _).push _⟩ (Heap.get?_push_size _ rfl) fun v h' tk hv k => fin v h' tk hv (old k)⟩
  rw [sz, List.mem_cons, List.mem_singleton, not_or]
  exact ⟨Nat.succ_ne_self _, fun z => by
    obtain ⟨o, e, _⟩ := id hl
    exact absurd (Heap.lt_size e) (by rw [← z]; exact Nat.not_lt.mpr (Nat.le_succ _))⟩
end
theorem argB_le (bt : Nat → Nat → Bool) : ∀ m, argBest bt m ≤ m
  | 0 => Nat.le_refl _
  | m + 1 => by
    show (if bt (m + 1) (argBest bt m) = true then m + 1 else argBest bt m) ≤ m + 1
    have := argB_le bt m
    split <;> omega
theorem argB_min (key : Nat → Int × Int) : ∀ m j, j ≤ m → leP (key (argBest (fun i j => SrtO.lexB (key i) (key j)) m)) (key j) = true
  | 0, j, h => by
    obtain rfl : j = 0 := by omega
    exact leP_iff.mpr (.inr ⟨rfl, Int.le_refl _⟩)
  | m + 1, j, h => by
    have ih := argB_min key m
    show leP (key (if SrtO.lexB (key (m + 1)) (key (argBest _ m)) = true then m + 1 else argBest _ m)) (key j) = true
    generalize argBest (fun i j => SrtO.lexB (key i) (key j)) m = b at ih ⊢
    have hc : SrtO.lexB (key (m + 1)) (key b) = !leP (key b) (key (m + 1)) := by unfold leP; rw [Bool.not_not]
    by_cases hj : j = m + 1
    · subst hj
      split
      · exact leP_iff.mpr (.inr ⟨rfl, Int.le_refl _⟩)
      · rename_i h2
        rw [hc] at h2
        simpa using h2
    · have h1 := leP_iff.mp (ih j (by omega))
      split
      · rename_i h2
        rw [hc] at h2
        have h3 : ¬ (leP (key b) (key (m + 1)) = true) := by simpa using h2
        rw [leP_iff] at h3
        rw [leP_iff]
        omega
      · exact leP_iff.mpr h1
theorem lexLt2 {a b c d : Int} : HT.lexLt [a, b] [c, d] = SrtO.lexB (a, b) (c, d) := by
  have h : SrtO.lexB (a, b) (c, d) = !leP (c, d) (a, b) := by unfold leP; rw [Bool.not_not]
  rw [h, HT.lexLt_cons, HT.lexLt_cons, HT.lexLt_nil_nil, Bool.eq_iff_iff, Bool.not_eq_true', ← Bool.not_eq_true, leP_iff]
  dsimp only
  by_cases h1 : a = c
  · rw [if_pos h1]
    by_cases h2 : b = d
    · rw [if_pos h2]
      simp only [Bool.false_eq_true, false_iff]
      omega
    · rw [if_neg h2, decide_eq_true_iff]
      omega
  · rw [if_neg h1, decide_eq_true_iff]
    omega
def rMinPO (K : PySem.W.Frag) : List V → Hp → VK → Prop := fun vs H Q => ∃ (a : Addr) (xs : List V) (k : V → Int × Int), vs = [V.ref a] ∧ SqL K H a xs ∧ xs ≠ [] ∧ (∀ x ∈ xs, ∃ t, x = V.ref t ∧ H t = some (.tup [.int (k x).1, .int (k x).2])) ∧ ∀ x ∈ xs, (∀ y ∈ xs, leP (k x) (k y) = true) → Q x H
theorem cr_minPO {X : Cx} (hu : X.A.units + 64 < cLine) (hc : X.calm = true) : CallR X (.builtin "min") (rMinPO X.K) := by
  intro pins s σ H vs us Q I r h
  obtain ⟨a, xs, k, rfl, hs, hne, hk, q⟩ := h
  obtain ⟨its, rv, hl, hz⟩ := I.list hs
  rw [Vals.ref1 r]
  have hlen := rv.length
  have hpos : 0 < its.length := by
    rw [← hlen]
    exact List.length_pos_iff.mpr hne
  have at_ : ∀ (i : Nat) v, its[i]? = some v → ∃ x, xs[i]? = some x ∧ RelV x v ∧ ∃ t, x = V.ref t ∧ H t = some (.tup [.int (k x).1, .int (k x).2]) := fun i v e => by
    have hi := (List.getElem?_eq_some_iff.mp e).1
    obtain ⟨x, ex⟩ : ∃ x, xs[i]? = some x := ⟨_, List.getElem?_eq_getElem (by omega)⟩
    obtain ⟨w, ew, rw'⟩ := rv.get ex
    rw [e] at ew
    cases ew
    exact ⟨x, ex, rw', hk x (List.mem_of_getElem? ex)⟩
  refine min_listH (fun i j => SrtO.lexB (k (xs.getD i .non)) (k (xs.getD j .non))) (I.ok.hd hc) hl.isList (by simpa using hpos) (fun t i j x y Q' E' kp hx hy h => ?_) fun v h' tk hv kp => ?_
  · obtain ⟨x1, e1, r1, t1, rfl, ht1⟩ := at_ i x (by simpa using hx)
    obtain ⟨x2, e2, r2, t2, rfl, ht2⟩ := at_ j y (by simpa using hy)
    cases r1
    cases r2
    obtain ⟨its1, v1, p1, _⟩ := I.tuple (SqT.of ht1)
    obtain ⟨its2, v2, p2, _⟩ := I.tuple (SqT.of ht2)
    have i1 : IntsAre its1.toArray.toList [(k (.ref t1)).1, (k (.ref t1)).2] := intsAre_of (ns := [(k (.ref t1)).1, (k (.ref t1)).2]) v1
    have i2 : IntsAre its2.toArray.toList [(k (.ref t2)).1, (k (.ref t2)).2] := intsAre_of (ns := [(k (.ref t2)).1, (k (.ref t2)).2]) v2
    have up : ∀ {l : Addr} {its : Array Value}, IsTup s.heap l its → IsTup t.heap l its := fun ⟨o, ho, r⟩ => ⟨o, kp _ _ ho, r⟩
    have hu1 : X.A.in1.units < cLine := Nat.lt_of_le_of_lt (show X.A.in1.units ≤ X.A.units + 64 from by first | exact Nat.le_add_right _ _ | exact Nat.add_le_add_left (by decide) _) hu
    refine HT.lt_tupInts (up p1) (up p2) i1 i2 hu1 ?_
    rw [lexLt2]
    rw [List.getD_eq_getElem?_getD, List.getD_eq_getElem?_getD, e1, e2] at h
    exact h
  · obtain ⟨B, hB⟩ : ∃ B, argBest (fun i j => SrtO.lexB (k (xs.getD i .non)) (k (xs.getD j .non))) (its.toArray.size - 1) = B := ⟨_, rfl⟩
    rw [hB] at hv
    obtain ⟨x, e1, r1, _⟩ := at_ B v (by simpa using hv)
    refine ⟨x, H, I.kept kp, r1, q x (List.mem_of_getElem? e1) fun y hy => ?_⟩
    obtain ⟨j, ej⟩ := List.mem_iff_getElem?.mp hy
    have hj := (List.getElem?_eq_some_iff.mp ej).1
    have hm : leP (k (xs.getD B .non)) (k (xs.getD j .non)) = true := by
      rw [← hB]
      exact argB_min (fun i => k (xs.getD i .non)) (its.toArray.size - 1) j (by rw [List.size_toArray]; omega)
    rw [List.getD_eq_getElem?_getD, List.getD_eq_getElem?_getD, e1, ej] at hm
    exact hm
theorem _root_.L2.Room.units65 {k : Nat} {A : Around} (r : Room k A) : A.units + 65 < cLine := by
  have h1 := r.un
  omega
/-! ### built-in calls -/
section
variable {X : Cx}
def uMax (K : PySem.W.Frag) : List V → Hp → VK → Prop := fun xs H Q => (∃ i j, xs = [.int i, .int j] ∧ Q (.int (if j > i then j else i)) H) ∨ rMax K xs H Q
theorem cr_umax (hc : X.calm = true := by rfl) : CallR X (.builtin "max") (uMax X.K) := (call_max2 hc).or (cr_max hc)
def uMin (K : PySem.W.Frag) : List V → Hp → VK → Prop := fun xs H Q => (∃ i j, xs = [.int i, .int j] ∧ Q (.int (if j < i then j else i)) H) ∨ rMin K xs H Q
theorem cr_umin (hc : X.calm = true := by rfl) : CallR X (.builtin "min") (uMin X.K) := (call_min2 hc).or (cr_min hc)
theorem cr_usum (hc : X.calm = true := by rfl) : CallR X (.builtin "sum") (rSum X.K) := cr_sum hc
theorem cr_uall (hc : X.calm = true := by rfl) : CallR X (.builtin "all") (rAll X.K) := cr_all hc
theorem cr_uany (hc : X.calm = true := by rfl) : CallR X (.builtin "any") (rAny X.K) := cr_any hc
def uList (K : PySem.W.Frag) : List V → Hp → VK → Prop := fun xs H Q => (∃ p ys, xs = [.ref p] ∧ (SqL K H p ys ∨ SqT K H p ys) ∧ ∀ l, H l = none → Q (.ref l) (upd H l (.lst ys))) ∨ rListD xs H Q
theorem ct_list (hc : X.calm = true := by rfl) : CallR X (.type "list") (uList X.K) := call_list_of.or (call_list_dK hc)
def uTup (K : PySem.W.Frag) : List V → Hp → VK → Prop := fun xs H Q => ∃ x, xs = [x] ∧ kTup K x H Q
theorem ct_tuple : CallR X (.type "tuple") (uTup X.K) := by
  intro pins s σ H xs us Q I r h
  obtain ⟨x, rfl, h⟩ := h
  obtain ⟨u, rfl, ru⟩ := vals1 r
  exact rl_tuple pins s σ H x u Q I ru h
def uInt : List V → Hp → VK → Prop := fun xs H Q => (∃ i, xs = [.int i] ∧ Q (.int i) H) ∨ ∃ k, xs = [.bl k] ∧ Q (.int (if k then 1 else 0)) H
theorem ct_int : CallR X (.type "int") uInt := call_int1
theorem bt_max : bootBuiltins "max" = some (.builtin "max") := by decide +kernel
theorem bt_min : bootBuiltins "min" = some (.builtin "min") := by decide +kernel
theorem bt_sum : bootBuiltins "sum" = some (.builtin "sum") := by decide +kernel
theorem bt_all : bootBuiltins "all" = some (.builtin "all") := by decide +kernel
theorem bt_any : bootBuiltins "any" = some (.builtin "any") := by decide +kernel
theorem bt_sorted : bootBuiltins "sorted" = some (.builtin "sorted") := by decide +kernel
def uLen (K : PySem.W.Frag) : List V → Hp → VK → Prop := fun xs H Q => (∃ p ys, xs = [.ref p] ∧ (SqL K H p ys ∨ SqT K H p ys) ∧ Q (.int ys.length) H) ∨ ((∃ z, xs = [.str z] ∧ z.length ≤ sizeLine ∧ Q (.int z.length) H) ∨ (∃ a kvs, xs = [V.ref a] ∧ H a = some (.dK kvs) ∧ Q (.int kvs.length) H))
theorem cr_ulen : CallR X (.builtin "len") (uLen X.K) := call_len_seq.or (call_len_str.or call_lenD)
def uIsi (K : PySem.W.Frag) : List V → Hp → VK → Prop := rIsi K
theorem cr_uisinstance : CallR X (.builtin "isinstance") (uIsi X.K) := call_isi
def uStr : List V → Hp → VK → Prop := fun xs H Q => ∃ i, xs = [.int i] ∧ i.natAbs.log2 < 1920 ∧ Q (.str (toString i)) H
theorem ct_str : CallR X (.type "str") uStr := call_str_int
theorem bt_isinstance : bootBuiltins "isinstance" = some (.builtin "isinstance") := by decide +kernel
theorem bt_int : bootBuiltins "int" = some (.type "int") := by decide +kernel
theorem bt_bool : bootBuiltins "bool" = some (.type "bool") := by decide +kernel
theorem bt_str : bootBuiltins "str" = some (.type "str") := by decide +kernel
theorem bt_ValueError : bootBuiltins "ValueError" = some (.type "ValueError") := by decide +kernel
theorem bt_list : bootBuiltins "list" = some (.type "list") := by decide +kernel
theorem bt_tuple : bootBuiltins "tuple" = some (.type "tuple") := by decide +kernel
theorem bt_dict : bootBuiltins "dict" = some (.type "dict") := by decide +kernel
theorem bt_len : bootBuiltins "len" = some (.builtin "len") := by decide +kernel
end
section
variable {σ : L2.St} {H : Hp} {K : PySem.W.Frag} {Q : VK} {p : Addr} {xs : List V} {n : Int} {v : V}
theorem x_lenL (h : SqL K H p xs) (q : Q (.int xs.length) H) : uLen K [.ref p] H Q := .inl ⟨p, xs, rfl, .inl h, q⟩
theorem x_lenM {α : Type} {l : List α} {f : α → V} (h : SqL K H p (l.map f)) (q : Q (.int l.length) H) : uLen K [.ref p] H Q := .inl ⟨p, _, rfl, .inl h, by rw [List.length_map]; exact q⟩
theorem x_lenT (h : SqT K H p xs) (q : Q (.int xs.length) H) : uLen K [.ref p] H Q := .inl ⟨p, xs, rfl, .inr h, q⟩
/-- the built-in class of a value -/
def tyN : V → Option String
  | .non => some "NoneType" | .bl _ => some "bool" | .int _ => some "int" | .str _ => some "str" | .flt _ => some "float" | _ => none
theorem x_isiV {c : String} {t : String} {b : Bool} (ht : tyN v = some t) (hk : kitB t c = some b) (q : Q (.bl b) H) : uIsi K [v, .ty c] H Q := by
  have ty : TyX K H v (.type t) := by
    cases v <;> simp only [tyN, Option.some.injEq, reduceCtorEq] at ht <;> subst ht
    · exact .base .non
    · exact .base (.bl _)
    · exact .base (.int _)
    · exact .base (.str _)
    · exact .base (.flt _)
  exact ⟨v, .ty c, .type t, .type c, b, rfl, .ty c, ty, kit_ty hk, q⟩
theorem x_isiR {c t : String} {b : Bool} (ty : TyX K H (.ref p) (.type t)) (hk : kitB t c = some b) (q : Q (.bl b) H) : uIsi K [.ref p, .ty c] H Q :=
  ⟨.ref p, .ty c, .type t, .type c, b, rfl, .ty c, ty, kit_ty hk, q⟩
theorem x_isiNon_int (q : Q (.bl false) H) : uIsi K [V.non, .ty "int"] H Q := x_isiV rfl (by decide +kernel) q
theorem x_isiNon_bool (q : Q (.bl false) H) : uIsi K [V.non, .ty "bool"] H Q := x_isiV rfl (by decide +kernel) q
theorem x_isiNon_str (q : Q (.bl false) H) : uIsi K [V.non, .ty "str"] H Q := x_isiV rfl (by decide +kernel) q
theorem x_isiNon_list (q : Q (.bl false) H) : uIsi K [V.non, .ty "list"] H Q := x_isiV rfl (by decide +kernel) q
theorem x_isiNon_tuple (q : Q (.bl false) H) : uIsi K [V.non, .ty "tuple"] H Q := x_isiV rfl (by decide +kernel) q
theorem x_isiNon_dict (q : Q (.bl false) H) : uIsi K [V.non, .ty "dict"] H Q := x_isiV rfl (by decide +kernel) q
theorem x_isiBl_int {b : Bool} (q : Q (.bl true) H) : uIsi K [(V.bl b), .ty "int"] H Q := x_isiV rfl (by decide +kernel) q
theorem x_isiBl_bool {b : Bool} (q : Q (.bl true) H) : uIsi K [(V.bl b), .ty "bool"] H Q := x_isiV rfl (by decide +kernel) q
theorem x_isiBl_str {b : Bool} (q : Q (.bl false) H) : uIsi K [(V.bl b), .ty "str"] H Q := x_isiV rfl (by decide +kernel) q
theorem x_isiBl_list {b : Bool} (q : Q (.bl false) H) : uIsi K [(V.bl b), .ty "list"] H Q := x_isiV rfl (by decide +kernel) q
theorem x_isiBl_tuple {b : Bool} (q : Q (.bl false) H) : uIsi K [(V.bl b), .ty "tuple"] H Q := x_isiV rfl (by decide +kernel) q
theorem x_isiBl_dict {b : Bool} (q : Q (.bl false) H) : uIsi K [(V.bl b), .ty "dict"] H Q := x_isiV rfl (by decide +kernel) q
theorem x_isiInt_int (q : Q (.bl true) H) : uIsi K [(V.int n), .ty "int"] H Q := x_isiV rfl (by decide +kernel) q
theorem x_isiInt_bool (q : Q (.bl false) H) : uIsi K [(V.int n), .ty "bool"] H Q := x_isiV rfl (by decide +kernel) q
theorem x_isiInt_str (q : Q (.bl false) H) : uIsi K [(V.int n), .ty "str"] H Q := x_isiV rfl (by decide +kernel) q
theorem x_isiInt_list (q : Q (.bl false) H) : uIsi K [(V.int n), .ty "list"] H Q := x_isiV rfl (by decide +kernel) q
theorem x_isiInt_tuple (q : Q (.bl false) H) : uIsi K [(V.int n), .ty "tuple"] H Q := x_isiV rfl (by decide +kernel) q
theorem x_isiInt_dict (q : Q (.bl false) H) : uIsi K [(V.int n), .ty "dict"] H Q := x_isiV rfl (by decide +kernel) q
theorem x_isiStr_int {z : Str} (q : Q (.bl false) H) : uIsi K [(V.str z), .ty "int"] H Q := x_isiV rfl (by decide +kernel) q
theorem x_isiStr_bool {z : Str} (q : Q (.bl false) H) : uIsi K [(V.str z), .ty "bool"] H Q := x_isiV rfl (by decide +kernel) q
theorem x_isiStr_str {z : Str} (q : Q (.bl true) H) : uIsi K [(V.str z), .ty "str"] H Q := x_isiV rfl (by decide +kernel) q
theorem x_isiStr_list {z : Str} (q : Q (.bl false) H) : uIsi K [(V.str z), .ty "list"] H Q := x_isiV rfl (by decide +kernel) q
theorem x_isiStr_tuple {z : Str} (q : Q (.bl false) H) : uIsi K [(V.str z), .ty "tuple"] H Q := x_isiV rfl (by decide +kernel) q
theorem x_isiStr_dict {z : Str} (q : Q (.bl false) H) : uIsi K [(V.str z), .ty "dict"] H Q := x_isiV rfl (by decide +kernel) q
theorem x_isiLst_int (h : H p = some (.lst xs)) (q : Q (.bl false) H) : uIsi K [.ref p, .ty "int"] H Q := x_isiR (.base (.lst h)) (by decide +kernel) q
theorem x_isiLst_bool (h : H p = some (.lst xs)) (q : Q (.bl false) H) : uIsi K [.ref p, .ty "bool"] H Q := x_isiR (.base (.lst h)) (by decide +kernel) q
theorem x_isiLst_str (h : H p = some (.lst xs)) (q : Q (.bl false) H) : uIsi K [.ref p, .ty "str"] H Q := x_isiR (.base (.lst h)) (by decide +kernel) q
theorem x_isiLst_list (h : H p = some (.lst xs)) (q : Q (.bl true) H) : uIsi K [.ref p, .ty "list"] H Q := x_isiR (.base (.lst h)) (by decide +kernel) q
theorem x_isiLst_tuple (h : H p = some (.lst xs)) (q : Q (.bl false) H) : uIsi K [.ref p, .ty "tuple"] H Q := x_isiR (.base (.lst h)) (by decide +kernel) q
theorem x_isiLst_dict (h : H p = some (.lst xs)) (q : Q (.bl false) H) : uIsi K [.ref p, .ty "dict"] H Q := x_isiR (.base (.lst h)) (by decide +kernel) q
theorem x_isiTup_int (h : H p = some (.tup xs)) (q : Q (.bl false) H) : uIsi K [.ref p, .ty "int"] H Q := x_isiR (.base (.tup h)) (by decide +kernel) q
theorem x_isiTup_bool (h : H p = some (.tup xs)) (q : Q (.bl false) H) : uIsi K [.ref p, .ty "bool"] H Q := x_isiR (.base (.tup h)) (by decide +kernel) q
theorem x_isiTup_str (h : H p = some (.tup xs)) (q : Q (.bl false) H) : uIsi K [.ref p, .ty "str"] H Q := x_isiR (.base (.tup h)) (by decide +kernel) q
theorem x_isiTup_list (h : H p = some (.tup xs)) (q : Q (.bl false) H) : uIsi K [.ref p, .ty "list"] H Q := x_isiR (.base (.tup h)) (by decide +kernel) q
theorem x_isiTup_tuple (h : H p = some (.tup xs)) (q : Q (.bl true) H) : uIsi K [.ref p, .ty "tuple"] H Q := x_isiR (.base (.tup h)) (by decide +kernel) q
theorem x_isiTup_dict (h : H p = some (.tup xs)) (q : Q (.bl false) H) : uIsi K [.ref p, .ty "dict"] H Q := x_isiR (.base (.tup h)) (by decide +kernel) q
theorem x_isiDk_int {kvs : List (Key × V)} (h : H p = some (.dK kvs)) (q : Q (.bl false) H) : uIsi K [.ref p, .ty "int"] H Q := x_isiR (.base (.dK h)) (by decide +kernel) q
theorem x_isiDk_bool {kvs : List (Key × V)} (h : H p = some (.dK kvs)) (q : Q (.bl false) H) : uIsi K [.ref p, .ty "bool"] H Q := x_isiR (.base (.dK h)) (by decide +kernel) q
theorem x_isiDk_str {kvs : List (Key × V)} (h : H p = some (.dK kvs)) (q : Q (.bl false) H) : uIsi K [.ref p, .ty "str"] H Q := x_isiR (.base (.dK h)) (by decide +kernel) q
theorem x_isiDk_list {kvs : List (Key × V)} (h : H p = some (.dK kvs)) (q : Q (.bl false) H) : uIsi K [.ref p, .ty "list"] H Q := x_isiR (.base (.dK h)) (by decide +kernel) q
theorem x_isiDk_tuple {kvs : List (Key × V)} (h : H p = some (.dK kvs)) (q : Q (.bl false) H) : uIsi K [.ref p, .ty "tuple"] H Q := x_isiR (.base (.dK h)) (by decide +kernel) q
theorem x_isiDk_dict {kvs : List (Key × V)} (h : H p = some (.dK kvs)) (q : Q (.bl true) H) : uIsi K [.ref p, .ty "dict"] H Q := x_isiR (.base (.dK h)) (by decide +kernel) q
theorem x_intB {b : Bool} (q : Q (.int (if b then 1 else 0)) H) : uInt [.bl b] H Q := .inr ⟨b, rfl, q⟩
theorem x_intI {m : Int} (q : Q (.int m) H) : uInt [.int m] H Q := .inl ⟨m, rfl, q⟩
theorem x_max2 {m n : Int} (q : Q (.int (if n > m then n else m)) H) : uMax K [.int m, .int n] H Q := .inl ⟨m, n, rfl, q⟩
theorem x_min2 {m n : Int} (q : Q (.int (if n < m then n else m)) H) : uMin K [.int m, .int n] H Q := .inl ⟨m, n, rfl, q⟩
theorem x_list (h : SqL K H p xs) (q : New H Q (.lst xs)) : uList K [.ref p] H Q := .inl ⟨p, xs, rfl, .inl h, q.mk⟩
theorem x_tupL (h : SqL K H p xs) (q : New H Q (.tup xs)) : uTup K [.ref p] H Q := ⟨_, rfl, .inl ⟨p, xs, rfl, h, q.mk⟩⟩
theorem x_listD {kvs : List (L2.Key × V)} (h : H p = some (.dK kvs)) (q : New H Q (.lst (kvs.map fun kv => kV kv.1))) : uList K [.ref p] H Q := .inr ⟨p, kvs, rfl, h, q.mk⟩
theorem x_lenD {kvs : List (L2.Key × V)} (h : H p = some (.dK kvs)) (q : Q (.int kvs.length) H) : uLen K [.ref p] H Q := .inr (.inr ⟨p, kvs, rfl, h, q⟩)
theorem x_str (q : Q (.str (toString n)) H) (h : n.natAbs.log2 < 1920) : uStr [.int n] H Q := ⟨n, rfl, h, q⟩
end
/-! ### the same rules where K is told (inside a comprehension) -/
section
variable {X : Cx} {K : PySem.W.Frag} {a b e : Expr} {rest : List Expr} {ta tb : TE} {pos : Pos} {f : Str}
theorem K_ix (hK : X.K = K := by rfl) : IxR X (rIx K) := hK ▸ ix_seq
theorem K_sl (hK : X.K = K := by rfl) : SlR X (rSlL K) := hK ▸ sl_u
theorem K_add (hK : X.K = K := by rfl) : OpR X (binaryOp .Add) (uAdd K) := hK ▸ op_uAdd
theorem K_eq (hu : X.A.units + 64 < cLine) (hK : X.K = K := by rfl) : OpR X (compareOp .Eq) (uEq K) := hK ▸ op_uEq hu
theorem K_ne (hu : X.A.units + 64 < cLine) (hK : X.K = K := by rfl) : OpR X (compareOp .NotEq) (uNe K) := hK ▸ op_uNe hu
theorem K_in (hK : X.K = K := by rfl) : OpR X (compareOp .In) (uIn K) := hK ▸ op_uIn
theorem K_notIn (hK : X.K = K := by rfl) : OpR X (compareOp .NotIn) (uNotIn K) := hK ▸ op_uNotIn
theorem K_fld (he : PE X e ta) (hb : attributeBase e f X.env (eval e X.env) = eval e X.env) (hK : X.K = K := by rfl) : PE X (.Attribute e f pos) (tFld K ta f) := hK ▸ pe_fld he hb
theorem K_orT (ha : PE X a ta) (hb : PE X (.BoolOp .Or (b :: rest) pos) tb) (hK : X.K = K := by rfl) : PE X (.BoolOp .Or (a :: b :: rest) pos) (tOrT K ta tb) := hK ▸ pe_orT ha hb
theorem K_andT (ha : PE X a ta) (hb : PE X (.BoolOp .And (b :: rest) pos) tb) (hK : X.K = K := by rfl) : PE X (.BoolOp .And (a :: b :: rest) pos) (tAndT K ta tb) := hK ▸ pe_andT ha hb
theorem K_notT (ha : PE X a ta) (hK : X.K = K := by rfl) : PE X (.UnaryOp .Not a pos) (tNotT K ta) := hK ▸ pe_notT ha
theorem K_ulen (hK : X.K = K := by rfl) : CallR X (.builtin "len") (uLen K) := hK ▸ cr_ulen
theorem K_umax (hc : X.calm = true := by rfl) (hK : X.K = K := by rfl) : CallR X (.builtin "max") (uMax K) := hK ▸ cr_umax hc
theorem K_umin (hc : X.calm = true := by rfl) (hK : X.K = K := by rfl) : CallR X (.builtin "min") (uMin K) := hK ▸ cr_umin hc
theorem K_usum (hc : X.calm = true := by rfl) (hK : X.K = K := by rfl) : CallR X (.builtin "sum") (rSum K) := hK ▸ cr_usum hc
theorem K_uisinstance (hK : X.K = K := by rfl) : CallR X (.builtin "isinstance") (uIsi K) := hK ▸ cr_uisinstance
theorem K_gtup {K : PySem.W.Frag} {es : List Expr} {k : Nat} {ts : TGs} {n : Nat} {pos : Pos} (hc : X.calm = true) (h : PGs X es ts) (hn : (assignEach es X.env).length = n := by rfl) (hst : (assignEach es X.env).findIdx? (·.1) = none := by rfl) (hK : X.K = K := by rfl) : PG X (.Tuple es k pos) (gTup K n ts) := hK ▸ pg_tup hc h hn hst
theorem K_usorted (hc : X.calm = true := by rfl) (hK : X.K = K := by rfl) : CallR X (.builtin "sorted") (uSorted K) := hK ▸ cr_usorted hc
theorem K_list (hK : X.K = K := by rfl) (hc : X.calm = true := by rfl) : CallR X (.type "list") (uList K) := hK ▸ ct_list hc
theorem K_methD {P : Program} {w : World} {mg : Str → Option Value} {base : Heap} {k : Nat} {E : L2.St → XK} {m : Str} {pos apos : Pos} {e o : Expr} {es : List Expr} {t : TA} {pl : Sem Bool} (he : PE X o ta) (hr : Room k X.A) (hx : ∀ σ, PassesAt (L2.CX P w) X σ (E σ)) (ha : PA X (e :: es) t)
    (hst : starEach (e :: es) X.env = (false, eval e X.env) :: starEach es X.env := by rfl) (hpl : (backTo pos (starEach es X.env)).any (·.1) = false := by rfl)
    (ht : eval (.Call (.Attribute o m apos) (e :: es) [] pos) X.env = (do
      let ov ← eval o X.env
      standAt apos.atName
      let (f, first) ← holding [ov] (getMethod ov m pl)
      callWith pos f first (backTo pos (starEach (e :: es) X.env)) (backToKw pos (keywordEach [] X.env))) := by rfl)
    (h1 : X.prog = P := by rfl) (h2 : X.w = w := by rfl) (h3 : X.K = K := by rfl) (h4 : X.mg = mg := by rfl) (h5 : X.base = base := by rfl) :
    PE X (.Call (.Attribute o m apos) (e :: es) [] pos) (tMethD P w K mg base (L2.CX P w) k m E ta t) := by
  subst h1 h2 h3 h4 h5
  exact pe_methD he hr hx ha hst hpl ht
theorem K_methD0 {P : Program} {w : World} {mg : Str → Option Value} {base : Heap} {k : Nat} {E : L2.St → XK} {m : Str} {pos apos : Pos} {o : Expr} {pl : Sem Bool} (he : PE X o ta) (hr : Room k X.A) (hx : ∀ σ, PassesAt (L2.CX P w) X σ (E σ))
    (ht : eval (.Call (.Attribute o m apos) [] [] pos) X.env = (do
      let ov ← eval o X.env
      standAt apos.atName
      let (f, first) ← holding [ov] (getMethod ov m pl)
      callWith pos f first (backTo pos (starEach [] X.env)) (backToKw pos (keywordEach [] X.env))) := by rfl)
    (h1 : X.prog = P := by rfl) (h2 : X.w = w := by rfl) (h3 : X.K = K := by rfl) (h4 : X.mg = mg := by rfl) (h5 : X.base = base := by rfl) :
    PE X (.Call (.Attribute o m apos) [] [] pos) (tMethD P w K mg base (L2.CX P w) k m E ta tNil) := by
  subst h1 h2 h3 h4 h5
  exact pe_methD0 he hr hx ht
theorem K_truth (ha : PE X a ta) (he : ∀ whole, isTrue a X.env whole = (do let v ← whole; standAt a.pos; holding [v] (truthy v))) (hK : X.K = K := by rfl) : PT X a (fun σ H Q => ta σ H fun x H' => ∃ k, TruV K x H' k ∧ Q k H') := hK ▸ pt_truth ha he
end
/-! sorted(d.items()), d a dict from whole numbers to whole numbers -/
section
open L2.DX
variable {X : Cx}
def rItemsI : V → List V → Hp → VK → Prop := fun x xs H Q => ∃ (a : Addr) (kvs : List (L2.Key × V)), x = .ref a ∧ xs = [] ∧ H a = some (.dK kvs) ∧ ∀ p, H p = none → Q (.ref p) (upd H p (itemsO p a))
theorem mt_itemsI : MtR X "dict.items" rItemsI := by
  intro pins s σ H x xs v us Q I rx rxs h
  obtain ⟨a, kvs, rfl, rfl, ha, q⟩ := h
  cases rx
  cases rxs
  obtain ⟨z, hd, xs', rel, o, es, ep, ho, hx, hdat, _⟩ := dk_of I.hok ha
  refine DT.callItems (es := es) (ep := ep) hd ⟨o, ho, hx, hdat⟩ ?_
  have hf : H s.heap.objs.size = none := I.hok.fresh (Nat.le_refl _)
  exact ⟨.ref s.heap.objs.size, upd H s.heap.objs.size (itemsO s.heap.objs.size a), I.laid (t' := s.toks) (fun b u e => Heap.get?_push_of_some _ e) (Nat.le_refl _) (itemsO_ok (Heap.get?_push_size _ rfl)), rfl, q _ hf⟩
theorem pairs_get {K : Type} [DecidableEq K] {prog : Program} {w : World} {knd : KeyKind prog w K} : ∀ {es : List DictEntry} {kvs : List (K × Value)}, Pairs knd es kvs → ∀ {j : Nat} {e : DictEntry}, es[j]? = some e → ∃ kv, kvs[j]? = some kv ∧ knd.is kv.1 e.key = true ∧ e.val = kv.2
  | _, _, .nil, j, e, h => by simp at h
  | _, _, .cons h1 h2 h3, 0, e, h => by
    cases h
    exact ⟨_, rfl, h1, h2⟩
  | _, _, .cons h1 h2 h3, j + 1, e, h => pairs_get h3 h
def kvP (l : List (Int × Int)) : List (L2.Key × V) := l.map fun e => (Sum.inl e.1, V.int e.2)
def rSortItI (B : Int) : List V → Hp → VK → Prop := fun vs H Q => ∃ (p a : Addr) (ls : List (Int × Int)), vs = [.ref p] ∧ H p = some (itemsO p a) ∧ H a = some (.dK (kvP ls)) ∧ ls.length < 64 ∧ (∀ e ∈ ls, TS.Bd B [e.1, e.2]) ∧
  ∀ (H' : Hp) (l : Addr) (ys : List V), Same H H' → H l = none → H' l = some (.lst ys) → PairL H' ys (sortP ls) → Q (.ref l) H'
theorem pget2 {α β : Type} {F : α → β → Prop} : ∀ {l : List α} {m : List β}, Paired F l m → ∀ {j : Nat} {b : β}, m[j]? = some b → ∃ a, l[j]? = some a ∧ F a b
  | _, _, .nil, j, b, h => by simp at h
  | _, _, .cons h1 h2, 0, b, h => by
    cases h
    exact ⟨_, rfl, h1⟩
  | _, _, .cons h1 h2, j + 1, b, h => pget2 h2 h
theorem cr_sortItI {B : Int} (hc : X.calm = true) : CallR X (.builtin "sorted") (rSortItI B) := by
  intro pins s σ H xs us Q I r h
  obtain ⟨p, a, ls, rfl, hp, ha, h64, hB, q⟩ := h
  obtain rfl := Vals.ref1 r
  have view : s.heap.IsItemsView p a := (show ObjOk X.prog X.w H s.heap p (itemsO p a) from I.hok p _ hp).1
  obtain ⟨z, hd, vs, rel, o, es, ep, ho, hx, hdat, hko, hpr, hnd⟩ := dk_of I.hok ha
  have l1 : (kvP ls).length = vs.length := Paired.length rel
  unfold kvP at l1
  rw [List.length_map] at l1
  have l2 : es.size = vs.length := by
    rw [← Array.length_toList]
    exact hpr.length
  have hh : X.A.handled = none := I.ok.hd hc
  refine DT.sortedI (es := es) (ep := ep) hh view ⟨o, ho, hx, hdat⟩ (by rw [sizeLine_eq]; omega) fun h' tk as hk hlt hl hG => ?_
  have lak : as.length = ls.length := by omega
  have nd : as.Nodup := List.Pairwise.imp (fun h => Nat.ne_of_lt h) hG.rise
  -- the pairs that were made
  have pr : ∀ (j : Nat) (b : Addr), as[j]? = some b → ∃ (e : Int × Int) (t1 t2 : Tok), ls[j]? = some e ∧ h'.get? b = some { cls := .type "tuple", data := .seq #[Value.int e.1 t1, Value.int e.2 t2] } := by
    intro j b hj
    obtain ⟨en, he, hg⟩ := hG.pairs j b hj
    rw [← Array.getElem?_toList] at he
    obtain ⟨kv, hkv, hki, hev⟩ := pairs_get hpr he
    obtain ⟨e0, he0, r1, r2⟩ := pget2 rel hkv
    unfold kvP at he0
    rw [List.getElem?_map] at he0
    cases hkj : ls[j]? with
    | none =>
      rw [hkj] at he0
      cases he0
    | some e =>
      rw [hkj] at he0
      have ee : (Sum.inl e.1, V.int e.2) = e0 := Option.some.inj he0
      rw [← ee] at r1 r2
      have hi : Value.isInt e.1 en.key = true := by
        have := hki
        rw [← r1] at this
        exact this
      obtain ⟨t1, h1⟩ := Value.isInt_shape hi
      obtain ⟨t2, h2⟩ := (show ∃ t, kv.2 = Value.int e.2 t from r2)
      refine ⟨e, t1, t2, rfl, ?_⟩
      rw [hg, h1, hev, h2]
  have hob : (h'.push { cls := .type "list", data := .seq (as.map Value.ref).toArray }).get? h'.objs.size = some (seqObj "list" (as.map Value.ref).toArray 0) := Heap.get?_push_size _ rfl
  have kb : ∀ b o, s.heap.get? b = some o → (h'.push { cls := .type "list", data := .seq (as.map Value.ref).toArray }).get? b = some o := fun b o e => Heap.get?_push_of_some _ (hk b o e)
  have ne0 : ∀ b o, h'.get? b = some o → b ≠ h'.objs.size := fun b o e => Nat.ne_of_lt (Heap.lt_size e)
  generalize hh2 : h'.push { cls := .type "list", data := .seq (as.map Value.ref).toArray } = h2 at hob kb ⊢
  have ka : ∀ b o, h'.get? b = some o → h2.get? b = some o := fun b o e => by rw [← hh2]; exact Heap.get?_push_of_some _ e
  have at_ : ∀ v ∈ as.map Value.ref, ∃ (j : Nat) (b : Addr), v = .ref b ∧ as[j]? = some b := by
    intro v hv'
    obtain ⟨b, hb, rfl⟩ := List.mem_map.mp hv'
    obtain ⟨j, hj⟩ := List.mem_iff_getElem?.mp hb
    exact ⟨j, b, rfl, hj⟩
  have ti : ∀ (j : Nat) (b : Addr) (e : Int × Int), as[j]? = some b → ls[j]? = some e → TS.TupInts h2 (.ref b) [e.1, e.2] := by
    intro j b e hj he
    obtain ⟨e', t1, t2, he', hg⟩ := pr j b hj
    have ee : e' = e := Option.some.inj (he'.symm.trans he)
    subst ee
    exact ⟨b, _, rfl, ⟨_, ka _ _ hg, rfl, 0, rfl⟩, .cons _ _ (.cons _ _ .nil)⟩
  refine TS.call_sort_tups (d := 2) (B := B) (s := { s with heap := h2, toks := tk }) hob (by rw [List.length_map]; omega) (by decide) (fun v hv => ?_) fun out o2 o3 => ?_
  · obtain ⟨j, b, rfl, hj⟩ := at_ v hv
    obtain ⟨e, _, _, he, _⟩ := pr j b hj
    exact ⟨[e.1, e.2], ti j b e hj he, rfl, hB e (List.mem_of_getElem? he)⟩
  · obtain ⟨zs, pz, ez⟩ := perm_lift (fun z : Addr × (Int × Int) => Value.ref z.1) o2 (as.zip ls) (by
      have e : (as.zip ls).map (fun z : Addr × (Int × Int) => Value.ref z.1) = ((as.zip ls).map Prod.fst).map Value.ref := by rw [List.map_map]; rfl
      rw [e, List.map_fst_zip (by rw [lak]; exact Nat.le_refl _)])
    have idx : ∀ z ∈ zs, ∃ j : Nat, as[j]? = some z.1 ∧ ls[j]? = some z.2 := by
      intro z' hz'
      obtain ⟨j, hj⟩ := List.mem_iff_getElem?.mp (pz.mem_iff.mp hz')
      exact ⟨j, List.getElem?_zip_eq_some.mp hj⟩
    have hout : out.toList = zs.map fun z => Value.ref z.1 := ez.symm
    have hperm : (zs.map (·.2)).Perm ls := by
      have e := pz.map (·.2)
      have m2 : (as.zip ls).map (·.2) = ls := List.map_snd_zip (by rw [lak]; exact Nat.le_refl _)
      rw [m2] at e
      exact e
    have hsort : zs.map (·.2) = sortP ls := by
      refine sortP_eq hperm ?_
      rw [hout, List.pairwise_map] at o3
      rw [List.pairwise_map]
      refine List.Pairwise.imp_of_mem (fun {x y} hx hy h => ?_) o3
      obtain ⟨j, j1, j2⟩ := idx x hx
      obtain ⟨i, i1, i2⟩ := idx y hy
      have h' : TS.code B (TS.intsOf h2 (.ref x.1)) ≤ TS.code B (TS.intsOf h2 (.ref y.1)) := h
      rw [(ti j _ _ j1 j2).ints, (ti i _ _ i1 i2).ints] at h'
      exact leP_iff.mpr (code_lex (hB _ (List.mem_of_getElem? j2)) (hB _ (List.mem_of_getElem? i2)) h')
    -- behind the sort
    have kF : ∀ b o, b ≠ h'.objs.size → h2.get? b = some o → (sortedHeap h2 h'.objs.size (as.map Value.ref) out).get? b = some o := fun b o hb e => (PyProof.Rows.sortedHeap_old hb (Heap.lt_size e)).trans e
    have kS : ∀ b o, s.heap.get? b = some o → (sortedHeap h2 h'.objs.size (as.map Value.ref) out).get? b = some o := fun b o e => kF b o (ne0 _ _ (hk b o e)) (kb b o e)
    obtain ⟨eF, heF⟩ := PyProof.Rows.sortedHeap_at (vs := as.map Value.ref) (out := out) hob
    have I1 : Inv X pins σ H { s with heap := sortedHeap h2 h'.objs.size (as.map Value.ref) out, toks := tk } := I.kept (t' := tk) kS
    have hn0 : H h'.objs.size = none := I.hok.fresh (Nat.le_of_lt hlt)
    have hlen : (zs.map fun z => V.ref z.1).length ≤ sizeLine := by
      have e := hperm.length_eq
      rw [List.length_map] at e
      rw [List.length_map, sizeLine_eq]
      omega
    have rv : Vals (zs.map fun z => V.ref z.1) out.toList := by
      rw [hout]
      exact vals_maps (fun z : Addr × (Int × Int) => V.ref z.1) (fun z => Value.ref z.1) zs fun _ _ => rfl
    have I2 : Inv X pins σ (upd H h'.objs.size (.lst (zs.map fun z => V.ref z.1))) { s with heap := sortedHeap h2 h'.objs.size (as.map Value.ref) out, toks := tk } :=
      I1.take (h' := sortedHeap h2 h'.objs.size (as.map Value.ref) out) (t' := tk) (fun b ob _ e => e) (I.fpOk (Nat.le_of_lt hlt) hn0) ⟨hlen, out.toList, eF, rv, heF⟩
    obtain ⟨H2, I3, g, qt⟩ := takeT (P := fun b vs => ∃ (j : Nat) (e : Int × Int), as[j]? = some b ∧ ls[j]? = some e ∧ vs = [.int e.1, .int e.2]) I as _ I2 nd fun b hb => by
      obtain ⟨j, hj⟩ := List.mem_iff_getElem?.mp hb
      obtain ⟨e, t1, t2, he, hg⟩ := pr j b hj
      have hlo : s.heap.objs.size ≤ b := Nat.le_of_lt (hG.above b hb)
      have hb2 : b ≠ h'.objs.size := ne0 _ _ hg
      refine ⟨hlo, by rw [upd_ne hb2]; exact I.hok.fresh hlo, _, ⟨j, e, hj, he, rfl⟩, fun H2 => ?_⟩
      exact ⟨(show 2 ≤ sizeLine by decide), [Value.int e.1 t1, Value.int e.2 t2], .cons ⟨t1, rfl⟩ (.cons ⟨t2, rfl⟩ .nil), _, kF b _ hb2 (ka _ _ hg), rfl, 0, rfl⟩
    refine ⟨.ref h'.objs.size, H2, I3, rfl, q H2 h'.objs.size (zs.map fun z => V.ref z.1) (fun b o e => g b o (by rw [upd_ne (ne_of_none e hn0)]; exact e)) hn0 (g _ _ upd_same) ?_⟩
    rw [← hsort]
    refine ⟨by rw [List.length_map, List.length_map], fun i x e h1 h2 => ?_⟩
    rw [List.getElem?_map] at h1 h2
    cases hz : zs[i]? with
    | none =>
      rw [hz] at h1
      cases h1
    | some z =>
      rw [hz] at h1 h2
      cases h1
      cases h2
      obtain ⟨j, j1, j2⟩ := idx z (List.mem_of_getElem? hz)
      obtain ⟨vs', ⟨j', e', k1, k2, k3⟩, hv⟩ := qt z.1 (List.mem_of_getElem? j1)
      have ej : j' = j := by
        have hj' := (List.getElem?_eq_some_iff.mp k1)
        have hj := (List.getElem?_eq_some_iff.mp j1)
        obtain ⟨a1, a2⟩ := hj'
        obtain ⟨b1, b2⟩ := hj
        exact (List.getElem_inj nd).mp (a2.trans b2.symm)
      subst ej
      have ee : e' = z.2 := Option.some.inj (k2.symm.trans j2)
      subst ee
      subst k3
      exact ⟨z.1, rfl, hv⟩
end
end Kit

namespace My
open PySem L2 Kit

def top (i : Nat) : Stmt := PySem.Challenge.pw_wornpages_k27_window.main.body.getD i (.Pass ⟨0, 0, 0, 0⟩)
abbrev s_is_whole : Stmt := top 5
abbrev N_is_whole : List Str := ["thing"]
theorem sc_is_whole : FnScope N_is_whole ["thing"] (defScope s_is_whole) := ⟨rfl, rfl, rfl, by decide +kernel, rfl, by decide +kernel, by decide +kernel⟩
abbrev s_is_within : Stmt := top 6
abbrev N_is_within : List Str := ["thing", "low", "high"]
theorem sc_is_within : FnScope N_is_within ["thing", "low", "high"] (defScope s_is_within) := ⟨rfl, rfl, rfl, by decide +kernel, rfl, by decide +kernel, by decide +kernel⟩
abbrev s_Rule_goes_ahead : Stmt := inClass (top 8) 0
abbrev N_Rule_goes_ahead : List Str := ["self", "one", "other", "pages", "now"]
theorem sc_Rule_goes_ahead : FnScope N_Rule_goes_ahead ["self", "one", "other", "pages", "now"] (defScope s_Rule_goes_ahead) := ⟨rfl, rfl, rfl, by decide +kernel, rfl, by decide +kernel, by decide +kernel⟩
abbrev s_Rule_choose : Stmt := inClass (top 8) 1
abbrev N_Rule_choose : List Str := ["self", "tallies", "pages", "now", "best", "tally"]
theorem sc_Rule_choose : FnScope N_Rule_choose ["self", "tallies", "pages", "now"] (defScope s_Rule_choose) := ⟨rfl, rfl, rfl, by decide +kernel, rfl, by decide +kernel, by decide +kernel⟩
abbrev s_Fewest_goes_ahead : Stmt := inClass (top 9) 0
abbrev N_Fewest_goes_ahead : List Str := ["self", "one", "other", "pages", "now"]
theorem sc_Fewest_goes_ahead : FnScope N_Fewest_goes_ahead ["self", "one", "other", "pages", "now"] (defScope s_Fewest_goes_ahead) := ⟨rfl, rfl, rfl, by decide +kernel, rfl, by decide +kernel, by decide +kernel⟩
abbrev s_Window_init : Stmt := inClass (top 10) 0
abbrev N_Window_init : List Str := ["self", "many"]
theorem sc_Window_init : FnScope N_Window_init ["self", "many"] (defScope s_Window_init) := ⟨rfl, rfl, rfl, by decide +kernel, rfl, by decide +kernel, by decide +kernel⟩
abbrev s_Window_choose : Stmt := inClass (top 10) 1
abbrev N_Window_choose : List Str := ["self", "tallies", "pages", "now", "aged", "tally", "best"]
theorem sc_Window_choose : FnScope N_Window_choose ["self", "tallies", "pages", "now"] (defScope s_Window_choose) := ⟨rfl, rfl, rfl, by decide +kernel, rfl, by decide +kernel, by decide +kernel⟩
abbrev s__law_cell_at : Stmt := top 12
abbrev N__law_cell_at : List Str := ["_law_script", "_law_k"]
theorem sc__law_cell_at : FnScope N__law_cell_at ["_law_script", "_law_k"] (defScope s__law_cell_at) := ⟨rfl, rfl, rfl, by decide +kernel, rfl, by decide +kernel, by decide +kernel⟩
abbrev s__law_whole : Stmt := top 13
abbrev N__law_whole : List Str := ["_law_found"]
theorem sc__law_whole : FnScope N__law_whole ["_law_found"] (defScope s__law_whole) := ⟨rfl, rfl, rfl, by decide +kernel, rfl, by decide +kernel, by decide +kernel⟩
abbrev s__law_now : Stmt := top 14
abbrev N__law_now : List Str := ["_law_cell"]
theorem sc__law_now : FnScope N__law_now ["_law_cell"] (defScope s__law_now) := ⟨rfl, rfl, rfl, by decide +kernel, rfl, by decide +kernel, by decide +kernel⟩
abbrev s__law_tallies : Stmt := top 15
abbrev N__law_tallies : List Str := ["_law_script", "_law_start", "_law_pages", "_law_now_here", "_law_found", "_law_block", "_law_cell", "_law_number", "_law_cleared"]
theorem sc__law_tallies : FnScope N__law_tallies ["_law_script", "_law_start", "_law_pages", "_law_now_here"] (defScope s__law_tallies) := ⟨rfl, rfl, rfl, by decide +kernel, rfl, by decide +kernel, by decide +kernel⟩
abbrev s__law_due : Stmt := top 16
abbrev N__law_due : List Str := ["_law_tallies_here", "_law_many", "_law_aged", "_law_tally", "_law_born", "_law_block", "_law_live"]
theorem sc__law_due : FnScope N__law_due ["_law_tallies_here", "_law_many"] (defScope s__law_due) := ⟨rfl, rfl, rfl, by decide +kernel, rfl, by decide +kernel, by decide +kernel⟩
abbrev s__law_refused : Stmt := top 17
abbrev N__law_refused : List Str := ["_law_many", "_law_kinds", "e"]
theorem sc__law_refused : FnScope N__law_refused ["_law_many"] (defScope s__law_refused) := ⟨rfl, rfl, rfl, by decide +kernel, rfl, by decide +kernel, by decide +kernel⟩
abbrev s_law : Stmt := top 18
abbrev N_law : List Str := ["_law_script", "_law_pages", "_law_now_here", "_law_tallies_here", "_law_many", "_law_some", "_law_k", "_law_row", "_law_handed", "_law_found", "_law_far", "_law_bad"]
theorem sc_law : FnScope N_law ["_law_script"] (defScope s_law) := ⟨rfl, rfl, rfl, by decide +kernel, rfl, by decide +kernel, by decide +kernel⟩
/-! steps of a reading: "s" one step, "go" as far as it goes -/
local macro_rules | `(tactic| walk_at "sq") => `(tactic| first | assumption | exact SqL.of (by assumption) | exact SqT.of (by assumption) | (refine' Same.seq ?hsm ?hsq; (case hsm => assumption); (case hsq => walk_at "sq")) | (refine' SqL.of ?hhq; (case hhq => walk_at "hp")) | (refine SqT.of ?_; walk_at "hp"))
local macro_rules | `(tactic| walk_at "hp") => `(tactic| first | assumption | (refine' (show Same _ _ by assumption) _ _ ?hhp; (case hhp => walk_at "hp")))
local macro_rules | `(tactic| walk_at "nin") => `(tactic| first | exact nin_of (by assumption) | exact nin_of (Ne.symm (by assumption)))
local macro_rules | `(tactic| walk_at "off") => `(tactic| first | exact Off.refl | exact Off.of (by assumption) | exact Off.sub (by assumption) (by intro b hb; rw [List.mem_singleton] at hb; subst hb; simp) | (refine Off.trans ?_ (Off.of (by assumption)); walk_at "off") | (refine Off.trans ?_ (Off.sub (by assumption) (by intro b hb; rw [List.mem_singleton] at hb; subst hb; simp)); walk_at "off") | (refine Off.trans ?_ (by assumption); walk_at "off"))
local macro_rules | `(tactic| walk_at "hp") => `(tactic| first | assumption | (refine' Off.at ?hO1 ?hO3 ?hO2; (case hO1 => assumption); (case hO2 => walk_at "nin"); (case hO3 => walk_at "hp")) | (refine' Off.lst ?hO1 ?hO2 ?hO3; (case hO1 => assumption); (case hO2 => assumption); (case hO3 => walk_at "hp")) | (refine' (show Same _ _ by assumption) _ _ ?hhp; (case hhp => walk_at "hp")))
local macro_rules | `(tactic| walk_at "nn") => `(tactic| (refine' ne_of_none ?nna ?nnb; (case nnb => assumption); (case nna => walk_at "hp")))
local macro_rules | `(tactic| walk_at "side") => `(tactic| first | assumption | decide | omega | exact ⟨by decide, by decide, by decide⟩ | exact ⟨by decide, by decide +kernel⟩ | exact Or.inr ⟨by decide, by decide⟩ | exact ⟨by omega, by omega⟩ | exact Or.inl ⟨by omega, by omega⟩ | exact Or.inr ⟨by omega, by omega⟩ | exact cdivW (by omega) (by omega) | (simp only [List.length_cons, List.length_nil, List.length_append, Nat.zero_add, Nat.reduceAdd, Nat.reduceMul]; decide) | (simp only [List.length_append, List.length_cons, List.length_nil, List.length_map]; omega) | (simp; done))
local macro_rules | `(tactic| walk_at "isi") => `(tactic| first
  | with_reducible refine x_isiNon_int ?_
  | with_reducible refine x_isiNon_bool ?_
  | with_reducible refine x_isiNon_str ?_
  | with_reducible refine x_isiNon_list ?_
  | with_reducible refine x_isiNon_tuple ?_
  | with_reducible refine x_isiNon_dict ?_
  | with_reducible refine x_isiBl_int ?_
  | with_reducible refine x_isiBl_bool ?_
  | with_reducible refine x_isiBl_str ?_
  | with_reducible refine x_isiBl_list ?_
  | with_reducible refine x_isiBl_tuple ?_
  | with_reducible refine x_isiBl_dict ?_
  | with_reducible refine x_isiInt_int ?_
  | with_reducible refine x_isiInt_bool ?_
  | with_reducible refine x_isiInt_str ?_
  | with_reducible refine x_isiInt_list ?_
  | with_reducible refine x_isiInt_tuple ?_
  | with_reducible refine x_isiInt_dict ?_
  | with_reducible refine x_isiStr_int ?_
  | with_reducible refine x_isiStr_bool ?_
  | with_reducible refine x_isiStr_str ?_
  | with_reducible refine x_isiStr_list ?_
  | with_reducible refine x_isiStr_tuple ?_
  | with_reducible refine x_isiStr_dict ?_
  | with_reducible refine x_isiLst_int (by assumption) ?_
  | with_reducible refine x_isiLst_bool (by assumption) ?_
  | with_reducible refine x_isiLst_str (by assumption) ?_
  | with_reducible refine x_isiLst_list (by assumption) ?_
  | with_reducible refine x_isiLst_tuple (by assumption) ?_
  | with_reducible refine x_isiLst_dict (by assumption) ?_
  | with_reducible refine x_isiTup_int (by assumption) ?_
  | with_reducible refine x_isiTup_bool (by assumption) ?_
  | with_reducible refine x_isiTup_str (by assumption) ?_
  | with_reducible refine x_isiTup_list (by assumption) ?_
  | with_reducible refine x_isiTup_tuple (by assumption) ?_
  | with_reducible refine x_isiTup_dict (by assumption) ?_
  | with_reducible refine x_isiDk_int (by assumption) ?_
  | with_reducible refine x_isiDk_bool (by assumption) ?_
  | with_reducible refine x_isiDk_str (by assumption) ?_
  | with_reducible refine x_isiDk_list (by assumption) ?_
  | with_reducible refine x_isiDk_tuple (by assumption) ?_
  | with_reducible refine x_isiDk_dict (by assumption) ?_)
local macro_rules | `(tactic| walk_at "s") => `(tactic| first
  | walk_at "u"
  | with_reducible refine x_seqA ?_
  | with_reducible refine x_seqD ?_
  | with_reducible refine x_seqF ?_
  | with_reducible refine x_seqFA ?_
  | with_reducible refine x_seqAug ?_
  | with_reducible refine x_asg ?_
  | ((with_reducible refine' x_var ?hv ?_); case hv => exact rfl)
  | with_reducible refine x_c ?_
  | with_reducible refine x_op ?_
  | with_reducible refine x_cb ?_
  | with_reducible refine x_cons ?_
  | with_reducible refine x_nil ?_
  | ((with_reducible refine x_gname ?_); (try dsimp only [List.set]))
  | with_reducible refine x_if ?_
  | with_reducible refine x_ret ?_
  | with_reducible refine x_test ?_
  | ((with_reducible refine x_isbl ?_); try dsimp only)
  | ((with_reducible refine x_truBl ?_); try dsimp only)
  | with_reducible refine x_callS ?_
  | with_reducible refine x_iteT ?_
  | with_reducible refine x_iteF ?_
  | with_reducible refine x_iteN ?_
  | with_reducible refine x_I0 ?_
  | with_reducible refine x_addI ?_
  | with_reducible refine x_lt ?_
  | ((with_reducible refine x_pow ?_ ?hs); (try (case hs => walk_at "side")); (try simp only [Int.reduceToNat]))
  | ((with_reducible refine x_I ?_ ?hs); (try (case hs => walk_at "side")))
  | ((with_reducible refine x_mulI ?_ ?hs); (case hs => walk_at "side"))
  | ((with_reducible refine x_mulU ?_ ?hs); (try (case hs => walk_at "side")))
  | with_reducible refine x_eqI ?_
  | with_reducible refine x_neI ?_
  | with_reducible refine x_eqB ?_
  | with_reducible refine x_neB ?_
  | with_reducible refine x_eqS ?_
  | with_reducible refine x_andT ?_
  | with_reducible refine x_orT ?_
  | with_reducible refine x_notT ?_
  | with_reducible refine x_and ?_
  | with_reducible refine x_or ?_
  | with_reducible refine x_not ?_
  | with_reducible refine x_chain ?_
  | with_reducible refine x_tB ?_
  | with_reducible refine x_tup ?_
  | with_reducible refine x_lst ?_
  | with_reducible refine x_un ?_
  | ((with_reducible refine x_nwL ?_ ?hs); (try (case hs => walk_at "side")); intro p H1 hp hs hn)
  | ((with_reducible refine x_nwT ?_ ?hs); (try (case hs => walk_at "side")); intro p H1 hp hs hn)
  | ((with_reducible refine' x_addL ?h1 ?h2 ?_ ?hs); (case h1 => walk_at "hp"); (case h2 => walk_at "hp"); (try (case hs => walk_at "side")); intro p H1 hp hs hn)
  | ((with_reducible refine' x_rep1 ?h1 ?_ ?h0); (case h1 => walk_at "hp"); (try (case h0 => walk_at "side")); intro p H1 hp hs hn)
  | ((with_reducible refine' x_rep ?h1 ?_ ?h2 ?h0 ?hs); (case h1 => walk_at "hp"); (try (case h2 => walk_at "side")); (try (case h0 => walk_at "side")); (try (case hs => walk_at "side")); intro p H1 hp hs hn)
  | ((with_reducible refine' x_addS ?_ ?hs); (try (case hs => walk_at "side")))
  | with_reducible refine x_U ?_
  | with_reducible refine x_drop ?_
  | with_reducible refine x_retN ?_
  | ((with_reducible refine x_next ?_); try dsimp only)
  | with_reducible refine x_ifExp ?_
  | ((with_reducible refine' x_lenM ?hq ?_); case hq => walk_at "sq")
  | ((with_reducible refine' x_lenL ?hq ?_); case hq => walk_at "sq")
  | ((with_reducible refine' x_lenD ?hq ?_); case hq => walk_at "hp")
  | ((with_reducible refine' x_lenT ?hq ?_); case hq => walk_at "sq")
  | ((with_reducible refine' x_ixH ?hq ?_); (case hq => walk_at "sq"))
  | ((with_reducible refine' x_ixS ?hq ?ha ?_); (case hq => walk_at "sq"); (case ha => first | assumption | exact rfl))
  | ((with_reducible refine' x_ixI ?hq ?_ ?h0 ?h1); (case hq => walk_at "sq"); (try (case h0 => walk_at "side")); (try (case h1 => walk_at "side")))
  | ((with_reducible refine' x_ixB ?hq ?_ ?h0 ?h1); (case hq => walk_at "sq"); (try (case h0 => walk_at "side")); (try (case h1 => walk_at "side")))
  | ((with_reducible refine' x_ixL ?hq ?_ ?h0 ?h1); (case hq => walk_at "sq"); (try (case h0 => walk_at "side")); (try (case h1 => walk_at "side")))
  | ((with_reducible refine' x_ixT ?hq ?ha ?_); (case hq => walk_at "sq"); case ha => exact rfl)
  | walk_at "isi"
  | with_reducible refine x_bm ?_
  | ((with_reducible refine' x_bmL ?hq ?_); (case hq => walk_at "sq"))
  | with_reducible refine x_bm0 ?_
  | ((with_reducible refine' x_bm0L ?hq ?_); (case hq => walk_at "sq"))
  | ((with_reducible refine' x_append ?ho ?_ ?hl); (case ho => walk_at "hp"); (try (case hl => walk_at "side")))
  | ((with_reducible refine' x_clear ?ho ?_); (case ho => walk_at "hp"))
  | with_reducible refine x_slice ?_
  | with_reducible refine x_noPart ?_
  | with_reducible refine x_part ?_
  | with_reducible refine x_ptK ?_
  | ((with_reducible refine' x_slL ?hq ?_); (case hq => walk_at "sq"); intro p H1 hp hs hn)
  | with_reducible refine x_forL ?_
  | with_reducible refine x_forT ?_
  | with_reducible refine x_forS ?_
  | with_reducible refine x_forR1 ?_
  | with_reducible refine x_forR2 ?_
  | with_reducible refine x_forEn ?_
  | with_reducible refine x_forZ ?_
  | with_reducible refine x_lcL ?_
  | with_reducible refine x_lcR1 ?_
  | with_reducible refine x_lcR2 ?_
  | with_reducible refine x_yes ?_
  | ((with_reducible refine x_mk0 ?_); intro p dp H1 hp hdp hne hs hn hd)
  | with_reducible refine x_mkS ?_
  | ((with_reducible refine x_mkK ?_); intro p dp H1 hp hdp hne hs hn hd)
  | with_reducible refine x_methD ?_
  | with_reducible refine x_fldAug ?_
  | with_reducible refine x_dget ?_
  | ((with_reducible refine' x_dgS ?ho ?hv ?_); (case ho => walk_at "hp"); (case hv => exact rfl); (try dsimp only))
  | with_reducible refine x_dput ?_
  | with_reducible refine x_seqDP ?_
  | with_reducible refine x_prN ?_
  | with_reducible refine x_prC ?_
  | ((with_reducible refine x_disp ?_); intro p H1 hp hs hn)
  | ((with_reducible refine x_dnew ?_); intro p H1 hp hs hn)
  | with_reducible refine x_din ?_
  | with_reducible refine x_dnin ?_
  | ((with_reducible refine' x_dninI ?ho ?_); (case ho => walk_at "hp"))
  | with_reducible refine x_dget1 ?_
  | with_reducible refine x_dsetd ?_
  | with_reducible refine x_dpop1 ?_
  | with_reducible refine x_dpop2 ?_
  | ((with_reducible refine' x_dinI ?ho ?_); (case ho => walk_at "hp"))
  | ((with_reducible refine' x_dg1K ?ho ?_); (case ho => walk_at "hp"))
  | ((with_reducible refine' x_dg1I ?ho ?_); (case ho => walk_at "hp"))
  | ((with_reducible refine' x_dsK ?ho ?_); (case ho => walk_at "hp"))
  | ((with_reducible refine' x_dpp1K ?ho ?_); (case ho => walk_at "hp"))
  | ((with_reducible refine' x_dpp2K ?ho ?_); (case ho => walk_at "hp"))
  | with_reducible refine x_augS ?_
  | with_reducible refine x_seqAS ?_
  | with_reducible refine x_rSub ?_
  | ((with_reducible refine' x_getI ?hq ?_ ?h0 ?h1); (case hq => walk_at "sq"); (try (case h0 => walk_at "side")); (try (case h1 => walk_at "side")))
  | ((with_reducible refine' x_getL ?hq ?_ ?h0 ?h1); (case hq => walk_at "sq"); (try (case h0 => walk_at "side")); (try (case h1 => walk_at "side")))
  | with_reducible refine x_gsub ?_
  | ((with_reducible refine' x_setL ?ho ?_ ?h0 ?h1); (case ho => walk_at "hp"); (try (case h0 => walk_at "side")); (try (case h1 => walk_at "side")); intro H1 hO hI; (try dsimp only))
  | ((with_reducible refine' x_sfN ?ho ?hf ?_ ?hc ?hn ?hl); (case ho => walk_at "hp"); (case hf => exact rfl); (case hc => walk_at "cls"); (case hn => walk_at "na"); (case hl => exact Nat.le_of_ble_eq_true rfl); intro H1 hO hI; (dsimp only [List.cons_append, List.nil_append] at hI); (try dsimp only))
  | ((with_reducible refine' x_fldK ?ho ?hf ?_ ?hc ?hn); (case ho => walk_at "hp"); (case hf => exact rfl); (case hc => walk_at "cls"); (case hn => walk_at "na"))
  | ((with_reducible refine' x_aug ?hv ?_); case hv => exact rfl)
  | ((with_reducible refine x_ipI ?_); (try dsimp only [List.set]))
  | with_reducible refine x_rAdd ?_
  | with_reducible refine x_isB ?_
  | with_reducible refine x_isNotB ?_
  | with_reducible refine x_isN ?_
  | with_reducible refine x_isNotN ?_
  | ((with_reducible refine' x_inI ?hq ?_); (case hq => walk_at "sq"))
  | ((with_reducible refine' x_notInI ?hq ?_); (case hq => walk_at "sq"))
  | ((with_reducible refine x_intB ?_); try dsimp only)
  | with_reducible refine x_intI ?_
  | with_reducible refine x_raise ?_
  | with_reducible refine x_seqR ?_
  | with_reducible refine x_mkE ?_
  | with_reducible refine x_try1 ?_
  | with_reducible refine x_seqT1 ?_
  | with_reducible refine x_tryA ?_
  | with_reducible refine x_seqTA ?_
  | with_reducible refine x_tryM ?_
  | with_reducible refine x_seqTM ?_
  | with_reducible refine x_mix ?_
  | with_reducible refine x_seqMix ?_
  | with_reducible refine x_xf ?_
  | with_reducible refine x_mkO ?_
  | with_reducible refine x_vei ?_
  | with_reducible refine x_fld ?_
  | with_reducible refine x_sfld ?_
  | ((with_reducible refine' x_gtup2 ?hq ?_); (case hq => walk_at "sq"); (try dsimp only [List.set]))
  | with_reducible refine x_max2 ?_
  | with_reducible refine x_min2 ?_
  | ((with_reducible refine' x_list ?hq ?_); (case hq => walk_at "sq"); intro p H1 hp hs hn)
  | with_reducible refine x_listRev ?_
  | ((with_reducible refine' x_lrK ?hq ?_); (case hq => walk_at "sq"); intro p H1 hp hs hn)
  | ((with_reducible refine' x_tupL ?hq ?_); (case hq => walk_at "sq"); intro p H1 hp hs hn)
  | ((with_reducible refine' x_listD ?hq ?_); (case hq => walk_at "hp"); intro p H1 hp hs hn)
  | ((with_reducible refine x_shl ?_ ?hs); (try (case hs => walk_at "side")))
  | ((with_reducible refine x_str ?_ ?hs); (try (case hs => walk_at "side"))))
local macro_rules | `(tactic| walk_at "go") => `(tactic| repeat walk_at "s")
local macro_rules | `(tactic| walk_at "begin") => `(tactic| simp only [cxOf, L2.start, List.map, List.length_cons, List.length_nil, List.replicate, Nat.reduceAdd, Nat.reduceSub, List.cons_append, List.nil_append])
local macro_rules | `(tactic| walk_at "if") => `(tactic| ((with_reducible refine x_seq ?_); repeat walk_at "s"))


--#LAWSPEC 7

structure Txt (K : PySem.W.Frag) (mg : Str → Option Value) where
  a_is_whole : Addr
  fd_is_whole : FuncData
  F_is_whole : Fun K "is_whole" "is_whole" s_is_whole a_is_whole fd_is_whole
  bd_is_whole : Binds K fd_is_whole ["thing"] []
  k_is_whole : PySem.W.keepIn K (.ref a_is_whole) = true
  g_is_whole : mg "is_whole" = some (.ref a_is_whole)
  a_is_within : Addr
  fd_is_within : FuncData
  F_is_within : Fun K "is_within" "is_within" s_is_within a_is_within fd_is_within
  bd_is_within : Binds K fd_is_within ["thing", "low", "high"] []
  k_is_within : PySem.W.keepIn K (.ref a_is_within) = true
  g_is_within : mg "is_within" = some (.ref a_is_within)
  a_Rule_goes_ahead : Addr
  fd_Rule_goes_ahead : FuncData
  F_Rule_goes_ahead : Fun K "goes_ahead" "Rule.goes_ahead" s_Rule_goes_ahead a_Rule_goes_ahead fd_Rule_goes_ahead
  bd_Rule_goes_ahead : Binds K fd_Rule_goes_ahead ["self", "one", "other", "pages", "now"] []
  k_Rule_goes_ahead : PySem.W.keepIn K (.ref a_Rule_goes_ahead) = true
  a_Rule_choose : Addr
  fd_Rule_choose : FuncData
  F_Rule_choose : Fun K "choose" "Rule.choose" s_Rule_choose a_Rule_choose fd_Rule_choose
  bd_Rule_choose : Binds K fd_Rule_choose ["self", "tallies", "pages", "now"] []
  k_Rule_choose : PySem.W.keepIn K (.ref a_Rule_choose) = true
  a_Fewest_goes_ahead : Addr
  fd_Fewest_goes_ahead : FuncData
  F_Fewest_goes_ahead : Fun K "goes_ahead" "Fewest.goes_ahead" s_Fewest_goes_ahead a_Fewest_goes_ahead fd_Fewest_goes_ahead
  bd_Fewest_goes_ahead : Binds K fd_Fewest_goes_ahead ["self", "one", "other", "pages", "now"] []
  k_Fewest_goes_ahead : PySem.W.keepIn K (.ref a_Fewest_goes_ahead) = true
  a_Window_init : Addr
  fd_Window_init : FuncData
  F_Window_init : Fun K "__init__" "Window.__init__" s_Window_init a_Window_init fd_Window_init
  bd_Window_init : Binds K fd_Window_init ["self", "many"] []
  k_Window_init : PySem.W.keepIn K (.ref a_Window_init) = true
  a_Window_choose : Addr
  fd_Window_choose : FuncData
  F_Window_choose : Fun K "choose" "Window.choose" s_Window_choose a_Window_choose fd_Window_choose
  bd_Window_choose : Binds K fd_Window_choose ["self", "tallies", "pages", "now"] []
  k_Window_choose : PySem.W.keepIn K (.ref a_Window_choose) = true
  a__law_cell_at : Addr
  fd__law_cell_at : FuncData
  F__law_cell_at : Fun K "_law_cell_at" "_law_cell_at" s__law_cell_at a__law_cell_at fd__law_cell_at
  bd__law_cell_at : Binds K fd__law_cell_at ["_law_script", "_law_k"] []
  k__law_cell_at : PySem.W.keepIn K (.ref a__law_cell_at) = true
  g__law_cell_at : mg "_law_cell_at" = some (.ref a__law_cell_at)
  a__law_whole : Addr
  fd__law_whole : FuncData
  F__law_whole : Fun K "_law_whole" "_law_whole" s__law_whole a__law_whole fd__law_whole
  bd__law_whole : Binds K fd__law_whole ["_law_found"] []
  k__law_whole : PySem.W.keepIn K (.ref a__law_whole) = true
  g__law_whole : mg "_law_whole" = some (.ref a__law_whole)
  a__law_now : Addr
  fd__law_now : FuncData
  F__law_now : Fun K "_law_now" "_law_now" s__law_now a__law_now fd__law_now
  bd__law_now : Binds K fd__law_now ["_law_cell"] []
  k__law_now : PySem.W.keepIn K (.ref a__law_now) = true
  g__law_now : mg "_law_now" = some (.ref a__law_now)
  a__law_tallies : Addr
  fd__law_tallies : FuncData
  F__law_tallies : Fun K "_law_tallies" "_law_tallies" s__law_tallies a__law_tallies fd__law_tallies
  bd__law_tallies : Binds K fd__law_tallies ["_law_script", "_law_start", "_law_pages", "_law_now_here"] []
  k__law_tallies : PySem.W.keepIn K (.ref a__law_tallies) = true
  g__law_tallies : mg "_law_tallies" = some (.ref a__law_tallies)
  a__law_due : Addr
  fd__law_due : FuncData
  F__law_due : Fun K "_law_due" "_law_due" s__law_due a__law_due fd__law_due
  bd__law_due : Binds K fd__law_due ["_law_tallies_here", "_law_many"] []
  k__law_due : PySem.W.keepIn K (.ref a__law_due) = true
  g__law_due : mg "_law_due" = some (.ref a__law_due)
  a__law_refused : Addr
  fd__law_refused : FuncData
  F__law_refused : Fun K "_law_refused" "_law_refused" s__law_refused a__law_refused fd__law_refused
  bd__law_refused : Binds K fd__law_refused ["_law_many"] []
  k__law_refused : PySem.W.keepIn K (.ref a__law_refused) = true
  g__law_refused : mg "_law_refused" = some (.ref a__law_refused)
  a_law : Addr
  fd_law : FuncData
  F_law : Fun K "law" "law" s_law a_law fd_law
  bd_law : Binds K fd_law ["_law_script"] []
  k_law : PySem.W.keepIn K (.ref a_law) = true
  C_Rule : Addr
  g_Rule : mg "Rule" = some (.ref C_Rule)
  cl_Rule : Cls K C_Rule
  mk0_Rule : Mk0 K C_Rule
  m_Rule_goes_ahead : Meth K C_Rule "goes_ahead" a_Rule_goes_ahead
  m_Rule_choose : Meth K C_Rule "choose" a_Rule_choose
  C_Fewest : Addr
  g_Fewest : mg "Fewest" = some (.ref C_Fewest)
  cl_Fewest : Cls K C_Fewest
  mk0_Fewest : Mk0 K C_Fewest
  m_Fewest_goes_ahead : Meth K C_Fewest "goes_ahead" a_Fewest_goes_ahead
  m_Fewest_choose : Meth K C_Fewest "choose" a_Rule_choose
  C_Window : Addr
  g_Window : mg "Window" = some (.ref C_Window)
  cl_Window : Cls K C_Window
  na_Window_many : NoAttr K C_Window "many"
  m_Window_goes_ahead : Meth K C_Window "goes_ahead" a_Fewest_goes_ahead
  m_Window_choose : Meth K C_Window "choose" a_Window_choose
  mk_Window : Mk K C_Window a_Window_init
  C_WornError : Addr
  g_WornError : mg "WornError" = some (.ref C_WornError)
  xc_WornError : XC K C_WornError
  C_NoRule : Addr
  g_NoRule : mg "NoRule" = some (.ref C_NoRule)
  xc_NoRule : XC K C_NoRule
  C_NoRow : Addr
  g_NoRow : mg "NoRow" = some (.ref C_NoRow)
  xc_NoRow : XC K C_NoRow
  em_NoRule_WornError : PySem.W.exmOne K (.ref C_NoRule) (.ref C_WornError) = some true
  ec_NoRule : ExcC K C_NoRule
  ki_NoRule_ValueError : PySem.W.kitOne K (.ref C_NoRule) (.type "ValueError") = some true
  kc_NoRule_NoRule : PySem.W.kitOne K (.ref C_NoRule) (.ref C_NoRule) = some true
  kc_NoRule_NoRow : PySem.W.kitOne K (.ref C_NoRule) (.ref C_NoRow) = some false
  b_len : mg "len" = none
  b_isinstance : mg "isinstance" = none
  b_min : mg "min" = none
  b_sorted : mg "sorted" = none
  b_int : mg "int" = none
  b_list : mg "list" = none
  b_bool : mg "bool" = none
  b_range : mg "range" = none
  b_ValueError : mg "ValueError" = none
local macro_rules | `(tactic| walk_at "cls") => `(tactic| first | assumption | exact (show Txt _ _ by assumption).cl_Rule | exact (show Txt _ _ by assumption).cl_Fewest | exact (show Txt _ _ by assumption).cl_Window)
local macro_rules | `(tactic| walk_at "na") => `(tactic| first | assumption | exact (show Txt _ _ by assumption).na_Window_many)

section
variable {P : Program} {w : World} {K : PySem.W.Frag} {mg : Str → Option Value} {base : Heap}
abbrev FO (P : Program) (w : World) (K : PySem.W.Frag) (mg : Str → Option Value) (base : Heap) := FnOk P w K mg base (L2.CX P w)
/-! ### the law's reader -/
def cl (ns : List Int) (k : Int) : Int := ns.getD k.toNat 0
def spCell (K : PySem.W.Frag) : Sp := fun vs H Q _ => ∃ (a : Addr) (ns : List Int) (k : Int), vs = [.ref a, .int k] ∧ SqL K H a (ns.map V.int) ∧ 0 ≤ k ∧ Q (.int (cl ns k)) H
theorem ok_cell_at (T : Txt K mg) : FO P w K mg base 1 T.a__law_cell_at T.fd__law_cell_at ["_law_script", "_law_k"] (spCell K) := by
  have sc := sc__law_cell_at
  refine T.F__law_cell_at.okX sc (fun vs H Q E h => ?_) (fun cdv A outer s H vs Q E hr h => ?_)
  · obtain ⟨a, ns, k, rfl, _⟩ := h
    rfl
  · obtain ⟨a, ns, k, rfl, hS, h0, q⟩ := h
    refine ⟨_, (pss_cons (ps_if (pt_cmpR op_uLt (pv 1) (pe_callB (cr_ulen) (by rfl) T.b_len bt_len (pa_cons (pv 0) pa_nil)) (nomark _)) (pss_one (ps_ret (pe_ix ix_seq (pv 0) (pv 1) (fun _ _ => rfl)))) pss_nil)
      (pss_one (ps_ret pe_int))), ?_⟩
    walk_at "begin"
    walk_at "if"
    refine x_iteD (fun h => ?_) (fun h => ?_)
    · walk_at "go"
      exact q
    · walk_at "go"
      have e : cl ns k = 0 := by
        unfold cl
        rw [List.getD_eq_getElem?_getD, List.getElem?_eq_none (by omega)]
        rfl
      rw [e] at q
      exact q

theorem x_cell {H : Hp} {Q : VK} {E : XK} {a : Addr} {ns : List Int} {k : Int} (h : SqL K H a (ns.map V.int)) (q : Q (.int (cl ns k)) H) (h0 : 0 ≤ k) : spCell K [.ref a, .int k] H Q E := ⟨a, ns, k, rfl, h, h0, q⟩
local macro_rules | `(tactic| walk_at "u") => `(tactic| ((with_reducible refine' x_cell ?hq ?_ ?h0); (case hq => walk_at "sq"); (try (case h0 => walk_at "side"))))

/-- a value that is no whole number, of a kind that is met here -/
def NotI (K : PySem.W.Frag) (H : Hp) (v : V) : Prop := v = .non ∨ (∃ b, v = .bl b) ∨ (∃ s, v = .str s) ∨ ∃ p, v = .ref p ∧ (TyX K H v (.type "list") ∨ TyX K H v (.type "tuple"))

def spLWhole (K : PySem.W.Frag) : Sp := fun vs H Q _ => ∃ v, vs = [v] ∧ ((∃ n, v = .int n ∧ Q (.bl true) H) ∨ (NotI K H v ∧ Q (.bl false) H))
theorem x_lwhole {H : Hp} {Q : VK} {E : XK} {n : Int} (q : Q (.bl true) H) : spLWhole K [.int n] H Q E := ⟨_, rfl, .inl ⟨n, rfl, q⟩⟩
theorem x_lwholeN {H : Hp} {Q : VK} {E : XK} {v : V} (h : NotI K H v) (q : Q (.bl false) H) : spLWhole K [v] H Q E := ⟨_, rfl, .inr ⟨h, q⟩⟩
local macro_rules | `(tactic| walk_at "u") => `(tactic| first | (with_reducible refine x_lwhole ?_) | (with_reducible refine x_lwholeN (by assumption) ?_))
theorem ok_whole (T : Txt K mg) : FO P w K mg base 1 T.a__law_whole T.fd__law_whole ["_law_found"] (spLWhole K) := by
  have sc := sc__law_whole
  refine T.F__law_whole.okX sc (fun vs H Q E h => ?_) (fun cdv A outer s H vs Q E hr h => ?_)
  · obtain ⟨v, rfl, _⟩ := h
    rfl
  · obtain ⟨v, rfl, h⟩ := h
    refine ⟨_, (pss_one (ps_ret (pe_andT (pe_callB (cr_uisinstance) (by rfl) T.b_isinstance bt_isinstance (pa_cons (pv 0) (pa_cons (pe_bltn (v := .ty "int") (by rfl) T.b_int bt_int rfl) pa_nil))) (pe_one (pe_notT (pe_callB (cr_uisinstance) (by rfl) T.b_isinstance bt_isinstance (pa_cons (pv 0) (pa_cons (pe_bltn (v := .ty "bool") (by rfl) T.b_bool bt_bool rfl) pa_nil)))))))), ?_⟩
    walk_at "begin"
    walk_at "go"
    rcases h with ⟨n, rfl, q⟩ | ⟨h, q⟩
    · walk_at "go"
      exact q
    · rcases h with rfl | ⟨b, rfl⟩ | ⟨z, rfl⟩ | ⟨p, rfl, h⟩
      · walk_at "go"
        exact q
      · walk_at "go"
        exact q
      · walk_at "go"
        exact q
      · rcases h with h | h
        · refine x_isiR h (b := false) (by decide +kernel) ?_
          walk_at "go"
          exact q
        · refine x_isiR h (b := false) (by decide +kernel) ?_
          walk_at "go"
          exact q

/-! ### whole numbers -/
def spWhole (K : PySem.W.Frag) : Sp := fun vs H Q _ => ∃ v, vs = [v] ∧ ((∃ n, v = .int n ∧ Q (.bl true) H) ∨ (NotI K H v ∧ Q (.bl false) H))
theorem x_whole {H : Hp} {Q : VK} {E : XK} {n : Int} (q : Q (.bl true) H) : spWhole K [.int n] H Q E := ⟨_, rfl, .inl ⟨n, rfl, q⟩⟩
theorem x_wholeN {H : Hp} {Q : VK} {E : XK} {v : V} (h : NotI K H v) (q : Q (.bl false) H) : spWhole K [v] H Q E := ⟨_, rfl, .inr ⟨h, q⟩⟩
local macro_rules | `(tactic| walk_at "u") => `(tactic| first | (with_reducible refine x_whole ?_) | (with_reducible refine x_wholeN (by assumption) ?_))
theorem ok_is_whole (T : Txt K mg) : FO P w K mg base 1 T.a_is_whole T.fd_is_whole ["thing"] (spWhole K) := by
  have sc := sc_is_whole
  refine T.F_is_whole.okX sc (fun vs H Q E h => ?_) (fun cdv A outer s H vs Q E hr h => ?_)
  · obtain ⟨v, rfl, _⟩ := h
    rfl
  · obtain ⟨v, rfl, h⟩ := h
    refine ⟨_, (pss_one (ps_ret (pe_andT (pe_callB (cr_uisinstance) (by rfl) T.b_isinstance bt_isinstance (pa_cons (pv 0) (pa_cons (pe_bltn (v := .ty "int") (by rfl) T.b_int bt_int rfl) pa_nil))) (pe_one (pe_notT (pe_callB (cr_uisinstance) (by rfl) T.b_isinstance bt_isinstance (pa_cons (pv 0) (pa_cons (pe_bltn (v := .ty "bool") (by rfl) T.b_bool bt_bool rfl) pa_nil)))))))), ?_⟩
    walk_at "begin"
    walk_at "go"
    rcases h with ⟨n, rfl, q⟩ | ⟨h, q⟩
    · walk_at "go"
      exact q
    · rcases h with rfl | ⟨b, rfl⟩ | ⟨z, rfl⟩ | ⟨p, rfl, h⟩
      · walk_at "go"
        exact q
      · walk_at "go"
        exact q
      · walk_at "go"
        exact q
      · rcases h with h | h
        · refine x_isiR h (b := false) (by decide +kernel) ?_
          walk_at "go"
          exact q
        · refine x_isiR h (b := false) (by decide +kernel) ?_
          walk_at "go"
          exact q
def spWithin (K : PySem.W.Frag) : Sp := fun vs H Q _ => ∃ v lo hi, vs = [v, .int lo, .int hi] ∧ ((∃ n, v = .int n ∧ Q (.bl (decide (lo ≤ n ∧ n ≤ hi))) H) ∨ (NotI K H v ∧ Q (.bl false) H))
theorem x_within {H : Hp} {Q : VK} {E : XK} {n lo hi : Int} (q : Q (.bl (decide (lo ≤ n ∧ n ≤ hi))) H) : spWithin K [.int n, .int lo, .int hi] H Q E := ⟨_, _, _, rfl, .inl ⟨n, rfl, q⟩⟩
theorem x_withinN {H : Hp} {Q : VK} {E : XK} {v : V} {lo hi : Int} (h : NotI K H v) (q : Q (.bl false) H) : spWithin K [v, .int lo, .int hi] H Q E := ⟨_, _, _, rfl, .inr ⟨h, q⟩⟩
local macro_rules | `(tactic| walk_at "u") => `(tactic| first | (with_reducible refine x_within ?_) | (with_reducible refine x_withinN (by assumption) ?_))
theorem ok_is_within (T : Txt K mg) : FO P w K mg base 2 T.a_is_within T.fd_is_within ["thing", "low", "high"] (spWithin K) := by
  have sc := sc_is_within
  refine T.F_is_within.okX sc (fun vs H Q E h => ?_) (fun cdv A outer s H vs Q E hr h => ?_)
  · obtain ⟨v, lo, hi, rfl, _⟩ := h
    rfl
  · obtain ⟨v, lo, hi, rfl, h⟩ := h
    refine ⟨_, (pss_one (ps_ret (pe_andT (pe_callS (ok_is_whole T) (hr.mono (by decide)) (by rfl) T.g_is_whole T.k_is_whole T.bd_is_whole (passAt (takes_of rfl rfl rfl rfl)) (pa_cons (pv 0) pa_nil)) (pe_one (pe_chain op_le op_le (pv 1) (pv 0) (pv 2)))))), ?_⟩
    walk_at "begin"
    walk_at "go"
    rcases h with ⟨n, rfl, q⟩ | ⟨h, q⟩
    · walk_at "go"
      refine x_iteD (fun h => ?_) (fun h => ?_)
      · walk_at "go"
        have e : decide (n ≤ hi) = decide (lo ≤ n ∧ n ≤ hi) := by simp [h]
        rw [e]
        exact q
      · walk_at "go"
        have e : false = decide (lo ≤ n ∧ n ≤ hi) := by simp [h]
        rw [← e] at q
        exact q
    · walk_at "go"
      exact q


/-! ### values that may be numbers -/
def NotS (v : V) : Prop := v = .non ∨ (∃ b, v = .bl b) ∨ ∃ s, v = .str s
theorem NotS.to {H : Hp} {v : V} (h : NotS v) : NotI K H v := by
  rcases h with h | h | h
  · exact .inl h
  · exact .inr (.inl h)
  · exact .inr (.inr (.inl h))
inductive Num : V → Option Int → Prop
  | int (n : Int) : Num (.int n) (some n)
  | no (v : V) : NotS v → Num v none
def inB (o : Option Int) (lo hi : Int) : Bool := match o with
  | some n => decide (lo ≤ n ∧ n ≤ hi)
  | none => false
theorem x_wNum {H : Hp} {Q : VK} {E : XK} {v : V} {o : Option Int} {lo hi : Int} (h : Num v o) (q : Q (.bl (inB o lo hi)) H) : spWithin K [v, .int lo, .int hi] H Q E := by
  cases h with
  | int n => exact ⟨_, _, _, rfl, .inl ⟨n, rfl, q⟩⟩
  | no v h => exact ⟨_, _, _, rfl, .inr ⟨h.to, q⟩⟩
theorem Num.of_inB {v : V} {o : Option Int} {lo hi : Int} (h : Num v o) (e : inB o lo hi = true) : ∃ n, v = .int n ∧ o = some n ∧ lo ≤ n ∧ n ≤ hi := by
  cases h with
  | int n => exact ⟨n, rfl, rfl, of_decide_eq_true e⟩
  | no v h => cases e

/-! ### tallies -/
structure Tal where
  b : Int
  l : Int
  c : Int
  o : Int
def Tal.vs (t : Tal) : List V := [.int t.b, .int t.l, .int t.c, .int t.o]
def TalAt (H : Hp) (v : V) (t : Tal) : Prop := ∃ a, v = .ref a ∧ H a = some (.tup t.vs)
def TAll (H : Hp) (vs : List V) (ts : List Tal) : Prop := vs.length = ts.length ∧ ∀ (i : Nat) v t, vs[i]? = some v → ts[i]? = some t → TalAt H v t
/-- a list of tallies -/
def TL (H : Hp) (p : Addr) (ts : List Tal) : Prop := ∃ vs, H p = some (.lst vs) ∧ TAll H vs ts
theorem TalAt.mono {H H' : Hp} {v : V} {t : Tal} (s : TupS H H') (h : TalAt H v t) : TalAt H' v t := by
  obtain ⟨a, e, h⟩ := h
  exact ⟨a, e, s _ _ h⟩
theorem TAll.mono {H H' : Hp} {vs : List V} {ts : List Tal} (s : TupS H H') (h : TAll H vs ts) : TAll H' vs ts := ⟨h.1, fun i v t h1 h2 => (h.2 i v t h1 h2).mono s⟩
theorem TL.mono {H H' : Hp} {p : Addr} {ts : List Tal} (s : Same H H') (h : TL H p ts) : TL H' p ts := by
  obtain ⟨vs, e, h⟩ := h
  exact ⟨vs, s _ _ e, h.mono (TupS.of s)⟩
theorem TAll.nil {H : Hp} : TAll H [] [] := ⟨rfl, fun i v t h _ => by simp at h⟩
theorem TAll.snoc {H : Hp} {vs : List V} {ts : List Tal} {v : V} {t : Tal} (h : TAll H vs ts) (hv : TalAt H v t) : TAll H (vs ++ [v]) (ts ++ [t]) := by
  refine ⟨by simp [h.1], fun i x y h1 h2 => ?_⟩
  by_cases hi : i < vs.length
  · rw [List.getElem?_append_left hi] at h1
    rw [List.getElem?_append_left (h.1 ▸ hi)] at h2
    exact h.2 i x y h1 h2
  · have e : i = vs.length := by
      have := (List.getElem?_eq_some_iff.mp h1).1
      simp at this
      omega
    subst e
    rw [List.getElem?_append_right (Nat.le_refl _)] at h1
    rw [h.1, List.getElem?_append_right (Nat.le_refl _)] at h2
    simp at h1 h2
    subst h1 h2
    exact hv
theorem TAll.get {H : Hp} {vs : List V} {ts : List Tal} (h : TAll H vs ts) {i : Nat} {v : V} (hi : vs[i]? = some v) : ∃ t, ts[i]? = some t ∧ TalAt H v t := by
  have hl := (List.getElem?_eq_some_iff.mp hi).1
  have hl2 : i < ts.length := h.1 ▸ hl
  exact ⟨ts[i], List.getElem?_eq_getElem hl2, h.2 i v _ hi (List.getElem?_eq_getElem hl2)⟩
/-- what the law's tallies are like -/
def Good (pages now : Int) (ts : List Tal) : Prop := (∀ t ∈ ts, 0 ≤ t.b ∧ t.b < 16 ∧ 0 ≤ t.l ∧ t.l ≤ pages ∧ 0 ≤ t.c ∧ t.c < 10 ^ 30 ∧ 0 ≤ t.o ∧ t.o < now) ∧ ts.Pairwise (fun s t => s.b < t.b)
/-! ### tallies as data -/
def Tal.data (t : Tal) : PyData := .tuple [.int t.b, .int t.l, .int t.c, .int t.o]
theorem TalAt.dp {H : Hp} {v : V} {t : Tal} (h : TalAt H v t) : Dp K H v t.data := by
  obtain ⟨a, rfl, h⟩ := h
  exact .tup (SqT.of h) (.cons (.int _) (.cons (.int _) (.cons (.int _) (.cons (.int _) .nil))))
def tdata (ts : List Tal) : PyData := .list (ts.map Tal.data)
theorem tdata_sh (ts : List Tal) : Sh 9 (tdata ts) := by
  refine Sh.list (k := 8) fun d h => ?_
  obtain ⟨t, _, rfl⟩ := List.mem_map.mp h
  refine Sh.tup (k := 7) fun d h => ?_
  simp only [List.mem_cons, List.not_mem_nil, or_false] at h
  rcases h with rfl | rfl | rfl | rfl <;> exact Sh.int
theorem TAll.dp {H : Hp} {vs : List V} {ts : List Tal} (h : TAll H vs ts) : DpAll K H vs (ts.map Tal.data) := by
  refine dpAll_of (by rw [List.length_map]; exact h.1) fun i v d h1 h2 => ?_
  rw [List.getElem?_map] at h2
  cases e : ts[i]? with
  | none => rw [e] at h2; simp at h2
  | some t =>
    rw [e] at h2
    simp at h2
    subst h2
    exact (h.2 i v t h1 e).dp
theorem TL.dp {H : Hp} {p : Addr} {ts : List Tal} (h : TL H p ts) : Dp K H (.ref p) (tdata ts) := by
  obtain ⟨vs, e, h⟩ := h
  exact .lst (SqL.of e) h.dp
theorem TL.eq {H : Hp} {p q : Addr} {ts : List Tal} {Q : VK} (h1 : TL H p ts) (h2 : TL H q ts) (k : Q (.bl true) H) : uEq K (.ref p) (.ref q) H Q := x_eqS2 h1.dp h2.dp (tdata_sh ts) k
theorem TL.ne {H : Hp} {p q : Addr} {ts : List Tal} {Q : VK} (h1 : TL H p ts) (h2 : TL H q ts) (k : Q (.bl false) H) : uNe K (.ref p) (.ref q) H Q := x_neS2 h1.dp h2.dp (tdata_sh ts) k
theorem TL.eqNil {H : Hp} {p q : Addr} {ts : List Tal} {Q : VK} (h1 : TL H p ts) (h2 : H q = some (.lst [])) (k : Q (.bl ts.isEmpty) H) : uEq K (.ref p) (.ref q) H Q := by
  refine x_eqD h1.dp (.lst (SqL.of h2) .nil) (tdata_sh ts) (Sh.list (k := 8) fun d h => by simp at h) ?_
  cases ts with
  | nil => exact k
  | cons t ts => exact k
theorem TalAt.ne {H : Hp} {v : V} {t : Tal} (h : TalAt H v t) : ∃ a, v = .ref a ∧ SqT K H a t.vs := by
  obtain ⟨a, rfl, h⟩ := h
  exact ⟨a, rfl, SqT.of h⟩
theorem TAll.sub {H : Hp} {vs : List V} {ts : List Tal} (h : TAll H vs ts) (k : Nat) : TAll H (vs.drop k) (ts.drop k) := ⟨by rw [List.length_drop, List.length_drop, h.1], fun i v t h1 h2 => by
  rw [List.getElem?_drop] at h1 h2
  exact h.2 _ v t h1 h2⟩
theorem TAll.take {H : Hp} {vs : List V} {ts : List Tal} (h : TAll H vs ts) (k : Nat) : TAll H (vs.take k) (ts.take k) := ⟨by rw [List.length_take, List.length_take, h.1], fun i v t h1 h2 => by
  rw [List.getElem?_take] at h1 h2
  split at h1
  · rename_i hk
    rw [if_pos hk] at h2
    exact h.2 _ v t h1 h2
  · simp at h1⟩

/-! the next stamp -/
def spNow : Sp := fun vs H Q _ => ∃ c : Int, vs = [.int c] ∧ ∀ n : Int, 1 ≤ n → n < 10 ^ 30 → Q (.int n) H
theorem ok_now (T : Txt K mg) : FO P w K mg base 1 T.a__law_now T.fd__law_now ["_law_cell"] spNow := by
  have sc := sc__law_now
  refine T.F__law_now.okX sc (fun vs H Q E h => ?_) (fun cdv A outer s H vs Q E hr h => ?_)
  · obtain ⟨_, rfl, _⟩ := h
    rfl
  · obtain ⟨c, rfl, q⟩ := h
    refine ⟨_, (pss_cons (ps_if (pt_cmpR (op_uEq hr.units) (pe_op op_mod (pv 0) pe_int) pe_int (nomark _)) (pss_one (ps_ret (pe_op op_uAdd pe_int (pe_op op_mod (pe_op op_fdivW (pv 0) pe_int) pe_int)))) pss_nil)
      (pss_cons (ps_if (pt_cmpR (op_uEq hr.units) (pe_op op_mod (pv 0) pe_int) pe_int (nomark _)) (pss_one (ps_ret (pe_op op_sub (pe_op op_pow pe_int pe_int) pe_int))) pss_nil)
      (pss_one (ps_ret (pe_op op_uAdd pe_int (pe_op op_mod (pe_op op_uMul (pv 0) pe_int) (pe_op op_sub (pe_op op_pow pe_int pe_int) pe_int))))))), ?_⟩
    walk_at "begin"
    walk_at "if"
    refine x_iteD (fun h => ?_) (fun h => ?_)
    · walk_at "go"
      exact q _ (by omega) (by omega)
    · walk_at "go"
      walk_at "if"
      refine x_iteD (fun h => ?_) (fun h => ?_)
      · walk_at "go"
        exact q _ (by decide) (by decide)
      · walk_at "go"
        exact q _ (by omega) (by omega)
theorem small64 {n : Nat} (h : n ≤ 1000) : n < sizeLine := Nat.lt_of_le_of_lt h (by decide)
def spTallies (K : PySem.W.Frag) : Sp := fun vs H Q _ => ∃ (a : Addr) (ns : List Int) (st pages now : Int), vs = [.ref a, .int st, .int pages, .int now] ∧ SqL K H a (ns.map V.int) ∧ (0 ≤ st ∧ 1 ≤ pages ∧ pages ≤ 16 ∧ 1 ≤ now ∧ now < 10 ^ 30) ∧
  ∀ p ts H', Same H H' → H p = none → TL H' p ts → ts ≠ [] → Good pages now ts → ts.length ≤ 16 → Q (.ref p) H'
theorem ok_tallies (T : Txt K mg) : FO P w K mg base 2 T.a__law_tallies T.fd__law_tallies ["_law_script", "_law_start", "_law_pages", "_law_now_here"] (spTallies K) := by
  have sc := sc__law_tallies
  refine T.F__law_tallies.okX sc (fun vs H Q E h => ?_) (fun cdv A outer s H vs Q E hr h => ?_)
  · obtain ⟨_, _, _, _, _, rfl, _⟩ := h
    rfl
  · obtain ⟨a, ns, st, pages, now, rfl, hS, ⟨hst, hp1, hp16, hn1, hn30⟩, q⟩ := h
    refine ⟨_, (pss_cons (ps_set (i := 4) sc.nd rfl (by first | exact Or.inl rfl | exact Or.inr rfl) (pe_lst pa_nil))
      (pss_cons (ps_for (passes_of rfl) rfl (pi_range1 (by rfl) T.b_range (pa_cons pe_int pa_nil)) (pg_name (i := 5) sc.nd rfl (by first | exact Or.inl rfl | exact Or.inr rfl)) (pss_cons (ps_set (i := 6) sc.nd rfl (by first | exact Or.inl rfl | exact Or.inr rfl) (pe_callS (ok_cell_at T) (hr.mono (by decide)) (by rfl) T.g__law_cell_at T.k__law_cell_at T.bd__law_cell_at (passAt (takes_of rfl rfl rfl rfl)) (pa_cons (pv 0) (pa_cons (pe_op op_uAdd (pv 1) (pv 5)) pa_nil))))
      (pss_one (ps_if (pt_cmpR op_gt (pe_op op_mod (pv 6) pe_int) pe_int (nomark _)) (pss_cons (ps_set (i := 7) sc.nd rfl (by first | exact Or.inl rfl | exact Or.inr rfl) (pe_op op_mod (pe_op op_uAdd (pe_op op_uAdd (pe_op op_uMul (pv 6) pe_int) (pe_op op_uMul pe_int (pv 5))) pe_int) pe_int))
      (pss_cons (ps_set (i := 8) sc.nd rfl (by first | exact Or.inl rfl | exact Or.inr rfl) (pe_op op_mod (pe_op op_uMul (pe_op op_uMul (pv 7) (pv 7)) pe_int) (pe_ix ix_seq (pe_lst (pa_cons pe_int (pa_cons (pe_op op_pow pe_int pe_int) pa_nil))) (pe_op op_mod (pe_op op_fdivW (pv 6) pe_int) pe_int) (fun _ _ => rfl))))
      (pss_one (ps_expr (pe_bm PySem.F.plainAttrs_list PySem.F.slot_list_append PySem.F.type_list_append mt_append (pv 4) (pa_cons (pe_tup (pa_cons (pv 5) (pa_cons (pe_op op_mod (pe_op op_fdivW (pv 6) pe_int) (pe_op op_uAdd (pv 2) pe_int)) (pa_cons (pv 8) (pa_cons (pe_op op_mod (pe_op op_uMul (pe_op op_uMul (pv 7) (pv 7)) (pv 7)) (pv 3)) pa_nil))))) pa_nil)))))) pss_nil))))
      (pss_cons (ps_if (pt_cmpR (op_uEq hr.units) (pv 4) (pe_lst pa_nil) (nomark _)) (pss_one (ps_expr (pe_bm PySem.F.plainAttrs_list PySem.F.slot_list_append PySem.F.type_list_append mt_append (pv 4) (pa_cons (pe_tup (pa_cons (pe_op op_mod (pe_op op_fdivW (pe_callS (ok_cell_at T) (hr.mono (by decide)) (by rfl) T.g__law_cell_at T.k__law_cell_at T.bd__law_cell_at (passAt (takes_of rfl rfl rfl rfl)) (pa_cons (pv 0) (pa_cons (pv 1) pa_nil))) pe_int) pe_int) (pa_cons pe_int (pa_cons pe_int (pa_cons pe_int pa_nil))))) pa_nil)))) pss_nil)
      (pss_one (ps_ret (pv 4)))))), ?_⟩
    walk_at "begin"
    walk_at "go"
    rename_i p H1 hp hs hn
    refine x_seq ?_
    walk_at "go"
    refine x_frR1 (by omega) (fun i σ H2 => ∃ (ts : List Tal) (v5 v6 v7 v8 : Option V), σ = [some (.ref a), some (.int st), some (.int pages), some (.int now), some (.ref p), v5, v6, v7, v8] ∧ Same H H2 ∧ TL H2 p ts ∧ Good pages now ts ∧ (∀ t ∈ ts, t.b < (i : Nat)) ∧ ts.length ≤ i)
      ⟨[], _, _, _, _, rfl, hs, ⟨[], hn, TAll.nil⟩, ⟨fun t h => by simp at h, List.Pairwise.nil⟩, fun t h => by simp at h, Nat.le_refl _⟩ ?_ ?_
    · intro i σ H2 hi ⟨ts, v5, v6, v7, v8, hσ, hs2, ⟨vs, hvs, hall⟩, hg, hb, hl⟩
      subst hσ
      have hi16 : i < 16 := hi
      rw [Int.zero_add]
      walk_at "go"
      generalize cl ns (st + (i : Nat)) = c
      refine x_iteD (fun h => ?_) (fun h => ?_)
      · walk_at "go"
        have hn1 := Int.emod_nonneg (c * 48271 + 7919 * (i : Nat) + 11) (show (2147483647 : Int) ≠ 0 by decide)
        have hn2 := Int.emod_lt_of_pos (c * 48271 + 7919 * (i : Nat) + 11) (show (0 : Int) < 2147483647 by decide)
        generalize (c * 48271 + 7919 * (i : Nat) + 11) % 2147483647 = n at hn1 hn2 ⊢
        walk_at "go"
        obtain ⟨m, em, hm, hm4⟩ : ∃ m : Int, [V.int 4, V.int (10 ^ 30)].getD (c / 3 % 2).toNat V.non = V.int m ∧ 0 < m ∧ m ≤ 10 ^ 30 := by
          have hk : c / 3 % 2 = 0 ∨ c / 3 % 2 = 1 := by omega
          rcases hk with e | e <;> rw [e]
          · exact ⟨4, rfl, by decide, by decide⟩
          · exact ⟨10 ^ 30, rfl, by decide, Int.le_refl _⟩
        rw [em]
        have hc1 := Int.emod_nonneg (n * n * 69621) (show m ≠ 0 by omega)
        have hc2 := Int.emod_lt_of_pos (n * n * 69621) hm
        have hl1 := Int.emod_nonneg (c / 6) (show pages + 1 ≠ 0 by omega)
        have hl2 := Int.emod_lt_of_pos (c / 6) (show 0 < pages + 1 by omega)
        have ho1 := Int.emod_nonneg (n * n * n) (show now ≠ 0 by omega)
        have ho2 := Int.emod_lt_of_pos (n * n * n) (show 0 < now by omega)
        have hvl : vs.length < sizeLine := small64 (by have := hall.1; omega)
        walk_at "go"
        rename_i q0 H3 hq0 hs3 hn3 q4 H4 hq4 hs4 hn4
        have s24 : Same H2 H4 := hs3.trans hs4
        have hall4 := (hall.mono (TupS.of s24)).snoc (v := .ref q4) (t := ⟨(i : Nat), c / 6 % (pages + 1), n * n * 69621 % m, n * n * n % now⟩) ⟨q4, rfl, hn4⟩
        refine ⟨ts ++ [⟨(i : Nat), c / 6 % (pages + 1), n * n * 69621 % m, n * n * n % now⟩], _, _, _, _, rfl, same_updS (hs2.trans s24) hp, ⟨_, upd_same, hall4.mono (TupS.upd (s24 _ _ hvs) (fun _ z => by cases z))⟩, ⟨?_, ?_⟩, ?_, ?_⟩
        · intro t ht
          rcases List.mem_append.mp ht with ht | ht
          · exact hg.1 t ht
          · rw [List.mem_singleton] at ht
            subst ht
            refine ⟨?_, ?_, hl1, ?_, hc1, ?_, ho1, ho2⟩ <;> dsimp only <;> omega
        · refine List.pairwise_append.mpr ⟨hg.2, List.pairwise_singleton _ _, fun x hx y hy => ?_⟩
          rw [List.mem_singleton] at hy
          subst hy
          exact hb x hx
        · intro t ht
          rcases List.mem_append.mp ht with ht | ht
          · have := hb t ht
            omega
          · rw [List.mem_singleton] at ht
            subst ht
            dsimp only
            omega
        · rw [List.length_append, List.length_singleton]
          omega
      · walk_at "go"
        exact ⟨ts, _, _, _, _, rfl, hs2, ⟨vs, hvs, hall⟩, hg, fun t ht => by have := hb t ht; omega, by omega⟩
    · intro σ H2 ⟨ts, v5, v6, v7, v8, hσ, hs2, ⟨vs, hvs, hall⟩, hg, hb, hl⟩
      subst hσ
      dsimp only
      refine x_join (fun σ' H3 => ∃ ts' v5 v6 v7 v8, σ' = [some (.ref a), some (.int st), some (.int pages), some (.int now), some (.ref p), v5, v6, v7, v8] ∧ Same H H3 ∧ TL H3 p ts' ∧ Good pages now ts' ∧ ts' ≠ [] ∧ ts'.length ≤ 16) (fun R hR => ?_) ?_
      · walk_at "go"
        rename_i q0 H3 hq0 hs3 hn3
        refine TL.eqNil (TL.mono hs3 ⟨vs, hvs, hall⟩) hn3 ?_
        walk_at "go"
        cases ts with
        | cons t0 ts0 =>
          exact iteF (hR _ _ ⟨t0 :: ts0, _, _, _, _, rfl, hs2.trans hs3, TL.mono hs3 ⟨vs, hvs, hall⟩, hg, (fun z => by cases z), hl⟩)
        | nil =>
          refine iteT ?_
          have e0 : vs = [] := List.length_eq_zero_iff.mp hall.1
          subst e0
          walk_at "go"
          rename_i q4 H4 hq4 hs4 hn4
          have hb1 : 0 ≤ cl ns st / 3 % 16 ∧ cl ns st / 3 % 16 < 16 := by omega
          refine hR _ _ ⟨[⟨cl ns st / 3 % 16, 0, 0, 0⟩], _, _, _, _, rfl, same_updS ((hs2.trans hs3).trans hs4) hp, ⟨_, upd_same, ((TAll.nil (H := H4)).snoc (t := ⟨cl ns st / 3 % 16, 0, 0, 0⟩) ⟨q4, rfl, hn4⟩).mono (TupS.upd (hs4 _ _ (hs3 _ _ hvs)) (fun _ z => by cases z))⟩, ⟨?_, List.pairwise_singleton _ _⟩, (fun z => by cases z), Nat.le_of_ble_eq_true rfl⟩
          intro t ht
          rw [List.mem_singleton] at ht
          subst ht
          exact ⟨hb1.1, hb1.2, Int.le_refl _, by dsimp only; omega, Int.le_refl _, by dsimp only; omega, Int.le_refl _, by dsimp only; omega⟩
      · intro σ' H3 ⟨ts', v5, v6, v7, v8, hσ, hs3, ht, hg', hne, hl'⟩
        subst hσ
        walk_at "go"
        exact q p ts' H3 hs3 hp ht hne hg' hl'
theorem x_now {H : Hp} {Q : VK} {E : XK} {c : Int} (q : ∀ n : Int, 1 ≤ n → n < 10 ^ 30 → Q (.int n) H) : spNow [.int c] H Q E := ⟨c, rfl, q⟩
theorem x_tallies {H : Hp} {Q : VK} {E : XK} {a : Addr} {ns : List Int} {st pages now : Int} (hS : SqL K H a (ns.map V.int))
  (q : ∀ p ts H', Same H H' → H p = none → TL H' p ts → ts ≠ [] → Good pages now ts → ts.length ≤ 16 → Q (.ref p) H') (h : 0 ≤ st ∧ 1 ≤ pages ∧ pages ≤ 16 ∧ 1 ≤ now ∧ now < 10 ^ 30) : spTallies K [.ref a, .int st, .int pages, .int now] H Q E := ⟨a, ns, st, pages, now, rfl, hS, h, q⟩
local macro_rules | `(tactic| walk_at "u") => `(tactic| first
  | ((with_reducible refine x_now ?_); intro now hnow1 hnow2)
  | ((with_reducible refine' x_tallies ?hq ?_ ?hs); (case hq => walk_at "sq"); (try (case hs => walk_at "side")); intro p ts H1 hs hp hT hne hG hL))

/-! ### rules -/
def TOk (pages now : Int) (t : Tal) : Prop := 0 ≤ t.b ∧ t.b < 16 ∧ 0 ≤ t.l ∧ t.l ≤ pages ∧ 0 ≤ t.c ∧ t.c < 10 ^ 30 ∧ 0 ≤ t.o ∧ t.o < now
def PN (pages now : Int) : Prop := 1 ≤ pages ∧ pages ≤ 16 ∧ 1 ≤ now ∧ now < 10 ^ 30
/-- what goes_ahead of a rule tells: is g t u, and what it makes stays apart -/
def spGA (g : Int → Int → Tal → Tal → Bool) : Sp := fun vs H Q _ => ∃ (self one other : V) (t u : Tal) (pages now : Int), vs = [self, one, other, .int pages, .int now] ∧ TalAt H one t ∧ TalAt H other u ∧ TOk pages now t ∧ TOk pages now u ∧ PN pages now ∧
  ∀ H', Same H H' → Q (.bl (g pages now t u)) H'
/-- an object with such a rule -/
def RuleOb (P : Program) (w : World) (K : PySem.W.Frag) (mg : Str → Option Value) (base : Heap) (g : Int → Int → Tal → Tal → Bool) (H : Hp) (r : Addr) : Prop := ∃ C dx, H r = some (.ins C dx []) ∧ MO P w K mg base (L2.CX P w) 1 C "goes_ahead" (spGA g)
theorem RuleOb.mono {g : Int → Int → Tal → Tal → Bool} {H H' : Hp} {r : Addr} (s : Same H H') (h : RuleOb P w K mg base g H r) : RuleOb P w K mg base g H' r := by
  obtain ⟨C, dx, e, m⟩ := h
  exact ⟨C, dx, s _ _ e, m⟩
/-- the first of those that no later one goes ahead of -/
def pickL (g : Tal → Tal → Bool) (b : Tal) (ts : List Tal) : Tal := ts.foldl (fun b u => if g u b = true then u else b) b
def pick (g : Tal → Tal → Bool) : List Tal → Tal
  | [] => ⟨0, 0, 0, 0⟩
  | t :: ts => pickL g t ts
theorem pickL_mem (g : Tal → Tal → Bool) : ∀ (ts : List Tal) (b : Tal), pickL g b ts = b ∨ pickL g b ts ∈ ts
  | [], b => .inl rfl
  | t :: ts, b => by
    show pickL g (if g t b = true then t else b) ts = b ∨ _
    rcases pickL_mem g ts (if g t b = true then t else b) with h | h
    · rw [h]
      show _ ∨ pickL g (if g t b = true then t else b) ts ∈ _
      rw [h]
      by_cases hg : g t b = true
      · rw [if_pos hg]; exact .inr List.mem_cons_self
      · rw [if_neg hg]; exact .inl rfl
    · exact .inr (List.mem_cons_of_mem _ h)
theorem pickL_snoc (g : Tal → Tal → Bool) (b t : Tal) (ts : List Tal) : pickL g b (ts ++ [t]) = if g t (pickL g b ts) = true then t else pickL g b ts := by
  unfold pickL
  rw [List.foldl_append]
  rfl
def spChoose (P : Program) (w : World) (K : PySem.W.Frag) (mg : Str → Option Value) (base : Heap) : Sp := fun vs H Q _ => ∃ (r p : Addr) (pages now : Int) (ts : List Tal) (g : Int → Int → Tal → Tal → Bool), vs = [.ref r, .ref p, .int pages, .int now] ∧ RuleOb P w K mg base g H r ∧ TL H p ts ∧ ts ≠ [] ∧ (∀ t ∈ ts, TOk pages now t) ∧ ts.length ≤ 16 ∧ PN pages now ∧
  ∀ H', Same H H' → Q (.int (pick (g pages now) ts).b) H'
theorem ok_Rule_choose (T : Txt K mg) : FO P w K mg base 2 T.a_Rule_choose T.fd_Rule_choose ["self", "tallies", "pages", "now"] (spChoose P w K mg base) := by
  have sc := sc_Rule_choose
  refine T.F_Rule_choose.okX sc (fun vs H Q E h => ?_) (fun cdv A outer s H vs Q E hr h => ?_)
  · obtain ⟨_, _, _, _, _, _, rfl, _⟩ := h
    rfl
  · obtain ⟨r, p, pages, now, ts, g, rfl, hR, hT, hne, hok, hlen, hpn, q⟩ := h
    refine ⟨_, (pss_cons (ps_set (i := 4) sc.nd rfl (by first | exact Or.inl rfl | exact Or.inr rfl) (pe_ix ix_seq (pv 1) pe_int (fun _ _ => rfl)))
      (pss_cons (ps_for (passes_of rfl) rfl (pi_list (pe_slice sl_u (pv 1) (po_some pe_int) po_none)) (pg_name (i := 5) sc.nd rfl (by first | exact Or.inl rfl | exact Or.inr rfl)) (pss_one (ps_if (pt_truth (pe_methD (k := 1) (pv 0) (hr.mono (by decide)) (passAt (takes_of rfl rfl rfl rfl)) (pa_cons (pv 5) (pa_cons (pv 4) (pa_cons (pv 2) (pa_cons (pv 3) pa_nil))))) (by intro _; rfl)) (pss_one (ps_set (i := 4) sc.nd rfl (by first | exact Or.inl rfl | exact Or.inr rfl) (pv 5))) pss_nil)))
      (pss_one (ps_ret (pe_ix ix_seq (pv 4) pe_int (fun _ _ => rfl)))))), ?_⟩
    obtain ⟨vs, hvs, hall⟩ := hT
    obtain ⟨t0, ts0, rfl⟩ : ∃ t0 ts0, ts = t0 :: ts0 := by
      cases ts with
      | nil => exact absurd rfl hne
      | cons a b => exact ⟨a, b, rfl⟩
    obtain ⟨v0, vs0, rfl⟩ : ∃ v0 vs0, vs = v0 :: vs0 := by
      cases vs with
      | nil => exact absurd hall.1 (by simp)
      | cons a b => exact ⟨a, b, rfl⟩
    walk_at "begin"
    walk_at "go"
    refine x_seq ?_
    walk_at "go"
    rename_i q0 H1 hq0 hs1 hn1
    rw [show cutV (v0 :: vs0) (some 1) none = vs0 from cutV_from 1] at hn1
    have hall1 : TAll H1 vs0 ts0 := (hall.mono (TupS.of hs1)).sub 1
    refine x_frL (SqL.of hn1) (fun i σ H2 => ∃ (v5 : Option V) (bv : V), σ = [some (.ref r), some (.ref p), some (.int pages), some (.int now), some bv, v5] ∧ Same H1 H2 ∧ TalAt H2 bv (pickL (g pages now) t0 (ts0.take i)))
      ⟨_, _, rfl, fun _ _ h => h, (hall.2 0 v0 t0 rfl rfl).mono (TupS.of hs1)⟩ (fun i σ H2 hi ⟨_, _, _, hs2, _⟩ => hs2.seq (SqL.of hn1)) ?_ ?_
    · intro i x σ H2 hx ⟨v5, bv, hσ, hs2, hb⟩
      subst hσ
      obtain ⟨t, hti, hxt⟩ := hall1.get hx
      have hit := (List.getElem?_eq_some_iff.mp hti).1
      have hbo : TOk pages now (pickL (g pages now) t0 (ts0.take i)) := by
        rcases pickL_mem (g pages now) (ts0.take i) t0 with e | m
        · rw [e]; exact hok _ List.mem_cons_self
        · exact hok _ (List.mem_cons_of_mem _ (List.mem_of_mem_take m))
      obtain ⟨C, dx, hC, hM⟩ := hR.mono (hs1.trans hs2)
      walk_at "go"
      refine x_mtK hC hM rfl ?_
      walk_at "go"
      refine ⟨_, _, _, t, _, pages, now, rfl, hxt.mono (TupS.of hs2), hb, hok _ (List.mem_cons_of_mem _ (List.mem_of_getElem? hti)), hbo, hpn, fun H3 hs3 => ?_⟩
      have et : ts0.take (i + 1) = ts0.take i ++ [t] := by rw [List.take_add_one, hti]; rfl
      rw [et, pickL_snoc]
      walk_at "go"
      refine x_iteB (fun hg => ?_) (fun hg => ?_)
      · walk_at "go"
        rw [if_pos hg]
        exact ⟨_, _, rfl, hs2.trans hs3, (hxt.mono (TupS.of hs2)).mono (TupS.of hs3)⟩
      · walk_at "go"
        rw [if_neg (by rw [hg]; decide)]
        exact ⟨_, _, rfl, hs2.trans hs3, hb.mono (TupS.of hs3)⟩
    · intro σ H2 ⟨v5, bv, hσ, hs2, hb⟩
      subst hσ
      rw [hall1.1, List.take_length] at hb
      obtain ⟨a, rfl, hb⟩ := hb
      walk_at "go"
      exact q _ (hs1.trans hs2)
/-- the least by a rank -/
structure FirstMin (f : Tal → Int) (ts : List Tal) (i : Nat) (r : Tal) : Prop where
  at_ : ts[i]? = some r
  le : ∀ t ∈ ts, f r ≤ f t
  lt : ∀ j t, j < i → ts[j]? = some t → f r < f t
theorem pick_firstMin (f : Tal → Int) : ∀ (ts : List Tal), ts ≠ [] → ∃ i, FirstMin f ts i (pick (fun t u => decide (f t < f u)) ts) := by
  have key : ∀ (ts : List Tal) (done : List Tal) (b : Tal) (i : Nat), FirstMin f done i b → ∃ i, FirstMin f (done ++ ts) i (pickL (fun t u => decide (f t < f u)) b ts) := by
    intro ts
    induction ts with
    | nil => intro done b i h; rw [List.append_nil]; exact ⟨i, h⟩
    | cons t ts ih =>
      intro done b i h
      have e : done ++ t :: ts = (done ++ [t]) ++ ts := by simp
      rw [e]
      show ∃ i, FirstMin f _ i (pickL _ (if decide (f t < f b) = true then t else b) ts)
      by_cases hg : f t < f b
      · rw [if_pos (decide_eq_true hg)]
        refine ih _ _ done.length ⟨by rw [List.getElem?_append_right (Nat.le_refl _), Nat.sub_self]; rfl, fun x hx => ?_, fun j x hj hx => ?_⟩
        · rcases List.mem_append.mp hx with hx | hx
          · have := h.le x hx; omega
          · rw [List.mem_singleton] at hx; subst hx; exact Int.le_refl _
        · rw [List.getElem?_append_left hj] at hx
          have := h.le x (List.mem_of_getElem? hx)
          omega
      · rw [if_neg (by simpa using hg)]
        have hi := (List.getElem?_eq_some_iff.mp h.at_).1
        refine ih _ _ i ⟨by rw [List.getElem?_append_left hi]; exact h.at_, fun x hx => ?_, fun j x hj hx => ?_⟩
        · rcases List.mem_append.mp hx with hx | hx
          · exact h.le x hx
          · rw [List.mem_singleton] at hx; subst hx; omega
        · rw [List.getElem?_append_left (by omega)] at hx
          exact h.lt j x hj hx
  intro ts hne
  cases ts with
  | nil => exact absurd rfl hne
  | cons t ts =>
    have := key ts [t] t 0 ⟨rfl, fun x hx => by rw [List.mem_singleton] at hx; subst hx; exact Int.le_refl _, fun j x hj => by omega⟩
    exact this
/-- the law's own way to the first of the least -/
def spFirst (K : PySem.W.Frag) : Sp := fun vs H Q _ => ∃ (p r : Addr) (ts : List Tal) (f : Tal → Int), vs = [.ref p, .ref r] ∧ TL H p ts ∧ SqL K H r ((ts.map f).map V.int) ∧ ts ≠ [] ∧ ∀ H', Same H H' → Q (.int (pick (fun t u => decide (f t < f u)) ts).b) H'

/-! ### the window: the plain law -/
def keyO (t : Tal) : Int × Int := (t.o, t.b)
def winA (m : Nat) (ts : List Tal) : List (Int × Int) := (sortP (ts.map keyO)).take m
def winC (m : Nat) (ts : List Tal) : List Tal := ts.filter fun t => decide (keyO t ∈ winA m ts)
def winG (t u : Tal) : Bool := decide (t.l < u.l)
def winB (m : Nat) (ts : List Tal) : Tal := pick winG (winC m ts)
theorem winC_ne {m : Nat} {ts : List Tal} (hm : 1 ≤ m) (hne : ts ≠ []) : winC m ts ≠ [] := by
  have hl : (sortP (ts.map keyO)).length = ts.length := by rw [(sortP_perm _).length_eq, List.length_map]
  have hpos : 0 < (sortP (ts.map keyO)).length := by rw [hl]; exact List.length_pos_iff.mpr hne
  obtain ⟨e, l, hel⟩ : ∃ e l, sortP (ts.map keyO) = e :: l := by
    cases h : sortP (ts.map keyO) with
    | nil => rw [h] at hpos; exact absurd hpos (Nat.lt_irrefl _)
    | cons e l => exact ⟨e, l, rfl⟩
  have he : e ∈ ts.map keyO := (sortP_perm _).mem_iff.mp (by rw [hel]; exact List.mem_cons_self)
  obtain ⟨t, ht, rfl⟩ := List.mem_map.mp he
  intro z
  have : t ∈ winC m ts := by
    refine List.mem_filter.mpr ⟨ht, decide_eq_true ?_⟩
    unfold winA
    rw [hel]
    obtain ⟨k, rfl⟩ : ∃ k, m = k + 1 := ⟨m - 1, by omega⟩
    exact List.mem_cons_self
  rw [z] at this
  cases this
theorem winG_lt (t u : Tal) : winG t u = (fun t u : Tal => decide ((fun x : Tal => x.l) t < (fun x : Tal => x.l) u)) t u := rfl
/-- the least pair among the window's -/
theorem winB_least {m : Nat} {ts : List Tal} (hg : ts.Pairwise fun s t => s.b < t.b) (hm : 1 ≤ m) (hne : ts ≠ []) {M : List (Int × Int)} (hM : ∀ e, e ∈ M ↔ ∃ t ∈ winC m ts, e = (t.l, t.b)) {x : Int × Int} (hx : x ∈ M) (hle : ∀ y ∈ M, leP x y = true) : x.2 = (winB m ts).b := by
  obtain ⟨i, hF⟩ := pick_firstMin (fun t => t.l) (winC m ts) (winC_ne hm hne)
  have hF' : FirstMin (fun t => t.l) (winC m ts) i (winB m ts) := hF
  generalize winB m ts = r at hF' ⊢
  have hr : r ∈ winC m ts := List.mem_of_getElem? hF'.at_
  have hp : (winC m ts).Pairwise fun s t => s.b < t.b := hg.filter _
  obtain ⟨t, ht, rfl⟩ := (hM x).mp hx
  have h1 := leP_iff.mp (hle (r.l, r.b) ((hM _).mpr ⟨r, hr, rfl⟩))
  have h2 := hF'.le t ht
  obtain ⟨j, hj⟩ := List.mem_iff_getElem?.mp ht
  have hji : i ≤ j := by
    rcases Nat.lt_or_ge j i with h | h
    · have := hF'.lt j t h hj
      dsimp only at h1 h2 this
      omega
    · exact h
  have h3 : r.b ≤ t.b := by
    rcases Nat.lt_or_eq_of_le hji with h | h
    · obtain ⟨hi1, e1⟩ := List.getElem?_eq_some_iff.mp hF'.at_
      obtain ⟨hj1, e2⟩ := List.getElem?_eq_some_iff.mp hj
      have := List.pairwise_iff_getElem.mp hp i j hi1 hj1 h
      rw [e1, e2] at this
      omega
    · rw [← h, hF'.at_] at hj
      injection hj with hj
      rw [hj]
      exact Int.le_refl _
  dsimp only at h1 h2 ⊢
  omega
/-! data: pairs -/
def prD (e : Int × Int) : PyData := .tuple [.int e.1, .int e.2]
theorem prD_sh {k : Nat} (e : Int × Int) : Sh (k + 1) (prD e) := Sh.tup fun d h => by
  simp only [List.mem_cons, List.not_mem_nil, or_false] at h
  rcases h with rfl | rfl <;> exact Sh.int
theorem prD_eq (a b : Int × Int) : PyData.eqv (prD a) (prD b) = decide (a = b) := by
  obtain ⟨a1, a2⟩ := a
  obtain ⟨b1, b2⟩ := b
  by_cases h1 : a1 = b1
  · by_cases h2 : a2 = b2
    · subst h1 h2
      rw [(prD_sh (k := 8) (a1, a2)).refl]
      simp
    · rw [decide_eq_false (fun z => h2 (congrArg Prod.snd z))]
      simp [prD, PyData.eqv, PyData.eqvAll, h2]
  · rw [decide_eq_false (fun z => h1 (congrArg Prod.fst z))]
    simp [prD, PyData.eqv, PyData.eqvAll, h1]
theorem prD_any {l : List (Int × Int)} {e : Int × Int} : ((l.map prD).any fun z => PyData.eqv z (prD e)) = decide (e ∈ l) := by
  induction l with
  | nil => rfl
  | cons a l ih =>
    rw [List.map_cons, List.any_cons, ih, prD_eq, ← Bool.decide_or, decide_eq_decide, List.mem_cons]
    exact ⟨fun h => h.imp Eq.symm id, fun h => h.imp Eq.symm id⟩
theorem _root_.Kit.PairL.dp {K : PySem.W.Frag} {H : Hp} {q : Addr} {ws : List V} {is : List (Int × Int)} (h : PairL H ws is) (hq : H q = some (.lst ws)) : Dp K H (.ref q) (.list (is.map prD)) := by
  refine .lst (SqL.of hq) (dpAll_of (by rw [List.length_map]; exact h.1) fun i v d h1 h2 => ?_)
  rw [List.getElem?_map] at h2
  cases e : is[i]? with
  | none => rw [e] at h2; simp at h2
  | some t =>
    rw [e] at h2
    simp at h2
    subst h2
    obtain ⟨a, rfl, ha⟩ := h.2 i v t h1 e
    exact .tup (SqT.of ha) (.cons (.int _) (.cons (.int _) .nil))
theorem _root_.Kit.PairL.take {H : Hp} {ws : List V} {is : List (Int × Int)} (h : PairL H ws is) (m : Nat) : PairL H (ws.take m) (is.take m) := ⟨by rw [List.length_take, List.length_take, h.1], fun i x e h1 h2 => by
  rw [List.getElem?_take] at h1 h2
  split at h1
  · rename_i hi
    rw [if_pos hi] at h2
    exact h.2 i x e h1 h2
  · cases h1⟩
/-! ### the window's defs -/
theorem ok_Fewest_goes_ahead (T : Txt K mg) : FO P w K mg base 1 T.a_Fewest_goes_ahead T.fd_Fewest_goes_ahead ["self", "one", "other", "pages", "now"] (spGA fun _ _ t u => winG t u) := by
  have sc := sc_Fewest_goes_ahead
  refine T.F_Fewest_goes_ahead.okX sc (fun vs H Q E h => ?_) (fun cdv A outer s H vs Q E hr h => ?_)
  · obtain ⟨_, _, _, _, _, _, _, rfl, _⟩ := h
    rfl
  · obtain ⟨self, one, other, t, u, pages, now, rfl, ⟨a, rfl, ha⟩, ⟨b, rfl, hb⟩, _, _, _, q⟩ := h
    refine ⟨_, (pss_one (ps_ret (pe_cmpR op_uLt (pe_ix ix_seq (pv 1) pe_int (fun _ _ => rfl)) (pe_ix ix_seq (pv 2) pe_int (fun _ _ => rfl)) (nomark _)))), ?_⟩
    walk_at "begin"
    walk_at "go"
    exact q H fun _ _ h => h
def spWInit (T : Txt K mg) : Sp := fun vs H Q E => ∃ (r dx : Addr) (v : V) (o : Option Int), vs = [.ref r, v] ∧ H r = some (.ins T.C_Window dx []) ∧ Num v o ∧ (inB o 1 16 = true → ∀ H', Off [r] H H' → H' r = some (.ins T.C_Window dx [("many", v)]) → Q .non H') ∧ (inB o 1 16 = false → E (.ref T.C_NoRule) none H)
theorem ok_Window_init (T : Txt K mg) : FO P w K mg base 3 T.a_Window_init T.fd_Window_init ["self", "many"] (spWInit T) := by
  have sc := sc_Window_init
  refine T.F_Window_init.okX sc (fun vs H Q E h => ?_) (fun cdv A outer s H vs Q E hr h => ?_)
  · obtain ⟨_, _, _, _, rfl, _⟩ := h
    rfl
  · obtain ⟨r, dx, v, o, rfl, hR, hn, q1, q2⟩ := h
    refine ⟨_, (pss_cons (ps_if (pt_not (pt_truth (pe_callS (ok_is_within T) (hr.mono (by decide)) (by rfl) T.g_is_within T.k_is_within T.bd_is_within (passAt (takes_of rfl rfl rfl rfl)) (pa_cons (pv 1) (pa_cons pe_int (pa_cons pe_int pa_nil)))) (by intro _; rfl))) (pss_one (ps_raiseK rfl (takes_of rfl rfl rfl rfl) (pmk_ownK T.xc_NoRule T.g_NoRule rfl))) pss_nil)
      (pss_one (ps_fld (pv 0) (pv 1) rfl))), ?_⟩
    walk_at "begin"
    walk_at "if"
    refine x_wNum hn ?_
    walk_at "go"
    refine x_iteB (fun h => ?_) (fun h => ?_)
    · walk_at "go"
      rename_i H1 hO1 hI1
      exact q1 h H1 hO1 hI1
    · walk_at "go"
      exact q2 h
def spWChoose (T : Txt K mg) : Sp := fun vs H Q _ => ∃ (r dx p : Addr) (pages now m : Int) (ts : List Tal), vs = [.ref r, .ref p, .int pages, .int now] ∧ H r = some (.ins T.C_Window dx [("many", .int m)]) ∧ (1 ≤ m ∧ m ≤ 16) ∧ TL H p ts ∧ ts ≠ [] ∧ (∀ t ∈ ts, TOk pages now t) ∧ ts.length ≤ 16 ∧ PN pages now ∧
  ∀ H', Same H H' → Q (.int (winB m.toNat ts).b) H'
theorem ok_Window_choose (T : Txt K mg) : FO P w K mg base 2 T.a_Window_choose T.fd_Window_choose ["self", "tallies", "pages", "now"] (spWChoose T) := by
  have sc := sc_Window_choose
  refine T.F_Window_choose.okX sc (fun vs H Q E h => ?_) (fun cdv A outer s H vs Q E hr h => ?_)
  · obtain ⟨_, _, _, _, _, _, _, rfl, _⟩ := h
    rfl
  · obtain ⟨r, dx, p, pages, now, m, ts, rfl, hR, hm, ⟨vs, hvs, hall⟩, hne, hok, hlen, hpn, q⟩ := h
    refine ⟨_, (pss_cons (ps_set (i := 4) sc.nd rfl (by first | exact Or.inl rfl | exact Or.inr rfl) (pe_callB (cr_usorted) (by rfl) T.b_sorted bt_sorted (pa_cons (pe_lc (own := [("tally", 5)]) (by rfl) sc.nd (pi_list (pv 1)) (blkOk_by (own := [("tally", 5)]) (N := N_Window_choose) (sc := defScope s_Window_choose) (by decide +kernel)) (fun _ _ _ _ _ => (pg_name (i := 5) sc.nd rfl (by first | exact Or.inl rfl | exact Or.inr rfl))) (fun _ _ _ _ _ => pts_nil) (fun _ _ _ _ _ => (pe_tup (pa_cons (pe_ix (K_ix (K := K)) (pv 5) pe_int (fun _ _ => rfl)) (pa_cons (pe_ix (K_ix (K := K)) (pv 5) pe_int (fun _ _ => rfl)) pa_nil))))) pa_nil)))
      (pss_cons (ps_set (i := 6) sc.nd rfl (by first | exact Or.inl rfl | exact Or.inr rfl) pe_non)
      (pss_cons (ps_for (passes_of rfl) rfl (pi_list (pv 1)) (pg_name (i := 5) sc.nd rfl (by first | exact Or.inl rfl | exact Or.inr rfl)) (pss_one (ps_if (pt_cmpR (op_inD (Room.units65 hr)) (pe_tup (pa_cons (pe_ix ix_seq (pv 5) pe_int (fun _ _ => rfl)) (pa_cons (pe_ix ix_seq (pv 5) pe_int (fun _ _ => rfl)) pa_nil))) (pe_slice sl_u (pv 4) po_none (po_some (pe_fld (pv 0) rfl))) (by rfl)) (pss_one (ps_if (PW.pt (pw_or (pt_cmpR op_uIs (pv 6) pe_non (nomark _)) (pw_or1 (pt_truth (pe_methD (k := 1) (pv 0) (hr.mono (by decide)) (passAt (takes_of rfl rfl rfl rfl)) (pa_cons (pv 5) (pa_cons (pv 6) (pa_cons (pv 2) (pa_cons (pv 3) pa_nil))))) (by intro _; rfl))))) (pss_one (ps_set (i := 6) sc.nd rfl (by first | exact Or.inl rfl | exact Or.inr rfl) (pv 5))) pss_nil)) pss_nil)))
      (pss_one (ps_ret (pe_ix ix_seq (pv 6) pe_int (fun _ _ => rfl))))))), ?_⟩
    walk_at "begin"
    walk_at "go"
    refine x_lcLK (SqL.of hvs) (fun i acc H' => PairL H' acc ((ts.take i).map keyO)) (fun i acc H H' s h => h.mono s) (small64 (by rw [hall.1]; omega)) PairL.nil ?_ ?_
    · intro i x acc H' hx hs' ha NY NN hY hN
      obtain ⟨t, hti, hxt⟩ := hall.get hx
      obtain ⟨a, rfl, ht⟩ := hxt.mono (TupS.of hs')
      have et : ts.take (i + 1) = ts.take i ++ [t] := by rw [List.take_add_one, hti]; rfl
      dsimp only [wipe]
      walk_at "go"
      refine ⟨rfl, ?_⟩
      walk_at "go"
      rename_i tq H4 htq hs4 hn4
      refine hY _ _ hs4 ?_
      show PairL H4 _ _
      rw [et, List.map_append]
      exact (ha.mono (TupS.of hs4)).snoc (e := keyO t) ⟨tq, rfl, hn4⟩
    intro p1 xs H1 hp1 hs1 hn1 hpl
    rw [hall.1, List.take_length] at hpl
    walk_at "go"
    refine x_sortP (SqL.of hn1) hpl fun p2 ys H2 hp2 hs2 hn2 hpl2 => ?_
    have s02 := hs1.trans hs2
    have hvs2 := s02 _ _ hvs
    have hR2 := s02 _ _ hR
    have hall2 := hall.mono (TupS.of s02)
    walk_at "go"
    refine x_seq ?_
    walk_at "go"
    have cpre : ∀ {i : Nat} {t : Tal}, ts[i]? = some t → (ts.take (i + 1)).filter (fun t => decide (keyO t ∈ winA m.toNat ts)) = if keyO t ∈ winA m.toNat ts then (ts.take i).filter (fun t => decide (keyO t ∈ winA m.toNat ts)) ++ [t] else (ts.take i).filter (fun t => decide (keyO t ∈ winA m.toNat ts)) := fun {i t} h => by
      rw [List.take_add_one, h, List.filter_append]
      by_cases hk : keyO t ∈ winA m.toNat ts
      · rw [if_pos hk]
        simp [hk]
      · rw [if_neg hk]
        simp [hk]
    refine x_frL (SqL.of hvs2) (fun i σ H' => ∃ (v5 : Option V) (bv : V), σ = [some (.ref r), some (.ref p), some (.int pages), some (.int now), some (.ref p2), v5, some bv] ∧ Same H2 H' ∧
      (((ts.take i).filter (fun t => decide (keyO t ∈ winA m.toNat ts)) = [] ∧ bv = .non) ∨ (∃ t0 tl, (ts.take i).filter (fun t => decide (keyO t ∈ winA m.toNat ts)) = t0 :: tl ∧ TalAt H' bv (pickL winG t0 tl) ∧ pickL winG t0 tl ∈ ts)))
      ⟨_, _, rfl, fun _ _ h => h, .inl ⟨rfl, rfl⟩⟩ (fun i σ H' _ ⟨_, _, _, hs', _⟩ => hs'.seq (SqL.of hvs2)) ?_ ?_
    · intro i x σ H' hx ⟨v5, bv, hσ, hs', hJ⟩
      subst hσ
      obtain ⟨t, hti, hxt⟩ := hall2.get hx
      obtain ⟨a, rfl, ht⟩ := hxt.mono (TupS.of hs')
      have htm : t ∈ ts := List.mem_of_getElem? hti
      have hR' := hs' _ _ hR2
      have hn2' := hs' _ _ hn2
      have ec := cpre hti
      walk_at "go"
      rename_i tq H3 htq hs3 hn3 sl H4 hsl hs4 hn4
      have hR3 := hs3 _ _ hR'
      rw [show cutV ys none (some m) = ys.take m.toNat by rw [← cutV_to m.toNat, Int.toNat_of_nonneg (by omega)]] at hn4
      have hpl4 : PairL H4 (ys.take m.toNat) (winA m.toNat ts) := (hpl2.mono (TupS.of ((hs'.trans hs3).trans hs4))).take m.toNat
      have hn34 := hs4 _ _ hn3
      have dpx : Dp K H4 (.ref tq) (prD (keyO t)) := .tup (SqT.of hn34) (.cons (.int _) (.cons (.int _) .nil))
      refine ⟨prD (keyO t), (winA m.toNat ts).map prD, dpx, hpl4.dp hn4, (prD_sh (k := 8) _).shaped (by decide), (Sh.list (k := 8) (fun d hd => by
        obtain ⟨e, _, rfl⟩ := List.mem_map.mp hd
        exact prD_sh (k := 7) e)).shaped (by decide), ?_⟩
      rw [prD_any]
      have ht4 := hs4 _ _ (hs3 _ _ ht)
      have s24 := (hs'.trans hs3).trans hs4
      walk_at "go"
      refine x_iteD (fun hin => ?_) (fun hin => ?_)
      · rw [if_pos hin] at ec
        rcases hJ with ⟨h0, rfl⟩ | ⟨t0, tl, h0, hb, hbm⟩
        · rw [h0] at ec
          walk_at "go"
          refine iteT ?_
          walk_at "go"
          exact ⟨_, _, rfl, s24, .inr ⟨t, [], ec, ⟨a, rfl, ht4⟩, htm⟩⟩
        · rw [h0] at ec
          obtain ⟨b, rfl, hb4⟩ := hb.mono (TupS.of (hs3.trans hs4))
          have hR4 := hs4 _ _ hR3
          walk_at "go"
          refine iteF ?_
          walk_at "go"
          refine x_mtK hR4 ⟨⟨_, _, _, T.cl_Window, T.m_Window_goes_ahead, ok_Fewest_goes_ahead T, T.bd_Fewest_goes_ahead⟩⟩ rfl ?_
          walk_at "go"
          refine ⟨_, _, _, t, pickL winG t0 tl, pages, now, rfl, ⟨a, rfl, ht4⟩, ⟨b, rfl, hb4⟩, hok t htm, hok _ hbm, hpn, fun H5 hs5 => ?_⟩
          have es := pickL_snoc winG t0 t tl
          walk_at "go"
          refine x_iteB (fun hg => ?_) (fun hg => ?_)
          · rw [if_pos hg] at es
            walk_at "go"
            exact ⟨_, _, rfl, s24.trans hs5, .inr ⟨t0, tl ++ [t], ec, by rw [es]; exact ⟨a, rfl, hs5 _ _ ht4⟩, by rw [es]; exact htm⟩⟩
          · rw [if_neg (by rw [hg]; decide)] at es
            walk_at "go"
            exact ⟨_, _, rfl, s24.trans hs5, .inr ⟨t0, tl ++ [t], ec, by rw [es]; exact ⟨b, rfl, hs5 _ _ hb4⟩, by rw [es]; exact hbm⟩⟩
      · rw [if_neg hin] at ec
        walk_at "go"
        refine ⟨_, _, rfl, s24, ?_⟩
        rw [ec]
        rcases hJ with h | ⟨t0, tl, h0, hb, hbm⟩
        · exact .inl h
        · exact .inr ⟨t0, tl, h0, hb.mono (TupS.of (hs3.trans hs4)), hbm⟩
    · intro σ H' ⟨v5, bv, hσ, hs', hJ⟩
      subst hσ
      rw [hall2.1, List.take_length] at hJ
      rcases hJ with ⟨h0, _⟩ | ⟨t0, tl, h0, hb, _⟩
      · exact absurd h0 (winC_ne (by omega) hne)
      · obtain ⟨b, rfl, hb⟩ := hb
        have eb : winB m.toNat ts = pickL winG t0 tl := by
          unfold winB
          rw [show winC m.toNat ts = t0 :: tl from h0]
          rfl
        walk_at "go"
        rw [← eb]
        exact q H' (s02.trans hs')
/-! ### what the law reckons -/
def tri (t : Tal) : List Int := [t.o, t.b, t.l]
def kpT (e : List Int) : Int × Int := (e.getD 0 0, e.getD 1 0)
def lbT (e : List Int) : Int × Int := (e.getD 2 0, e.getD 1 0)
theorem tri_kp {ls : List (List Int)} {ts : List Tal} (hp : ls.Perm (ts.map tri)) (hs : ls.Pairwise (fun a b => TS.code (10 ^ 30) a ≤ TS.code (10 ^ 30) b)) (hb : ∀ t ∈ ts, TS.Bd (10 ^ 30) (tri t)) : ls.map kpT = sortP (ts.map keyO) := by
  refine sortP_eq ?_ (List.pairwise_map.mpr (List.Pairwise.imp_of_mem (fun {x y} hx hy z => ?_) hs))
  · have := hp.map kpT
    rw [List.map_map] at this
    exact this
  · obtain ⟨t, ht, rfl⟩ := List.mem_map.mp (hp.mem_iff.mp hx)
    obtain ⟨u, hu, rfl⟩ := List.mem_map.mp (hp.mem_iff.mp hy)
    have h1 := hb t ht
    have h2 := hb u hu
    refine leP_iff.mpr ?_
    show t.o < u.o ∨ (t.o = u.o ∧ t.b ≤ u.b)
    rcases code_cons (by rfl) h1 h2 z with h | ⟨h, h'⟩
    · exact .inl h
    · rcases code_cons (by rfl) h1.tail h2.tail h' with h3 | ⟨h3, _⟩ <;> omega
theorem tri_mem {ls : List (List Int)} {ts : List Tal} {m : Nat} (hp : ls.Perm (ts.map tri)) (hk : ls.map kpT = sortP (ts.map keyO)) (hg : ts.Pairwise fun s t => s.b < t.b) (e : Int × Int) : e ∈ (ls.take m).map lbT ↔ ∃ t ∈ winC m ts, e = (t.l, t.b) := by
  have hw : winA m ts = (ls.take m).map kpT := by
    unfold winA
    rw [← hk, List.map_take]
  constructor
  · intro h
    obtain ⟨x, hx, rfl⟩ := List.mem_map.mp h
    obtain ⟨t, ht, rfl⟩ := List.mem_map.mp (hp.mem_iff.mp (List.mem_of_mem_take hx))
    exact ⟨t, List.mem_filter.mpr ⟨ht, decide_eq_true (by rw [hw]; exact List.mem_map.mpr ⟨_, hx, rfl⟩)⟩, rfl⟩
  · rintro ⟨t, ht, rfl⟩
    obtain ⟨ht, hd⟩ := List.mem_filter.mp ht
    have hd := of_decide_eq_true hd
    rw [hw] at hd
    obtain ⟨x, hx, e⟩ := List.mem_map.mp hd
    obtain ⟨u, hu, rfl⟩ := List.mem_map.mp (hp.mem_iff.mp (List.mem_of_mem_take hx))
    have eb : u.b = t.b := congrArg Prod.snd e
    have : u = t := by
      obtain ⟨i, hi⟩ := List.mem_iff_getElem?.mp hu
      obtain ⟨j, hj⟩ := List.mem_iff_getElem?.mp ht
      obtain ⟨hi1, e1⟩ := List.getElem?_eq_some_iff.mp hi
      obtain ⟨hj1, e2⟩ := List.getElem?_eq_some_iff.mp hj
      rcases Nat.lt_trichotomy i j with h | h | h
      · have := List.pairwise_iff_getElem.mp hg i j hi1 hj1 h
        rw [e1, e2] at this
        omega
      · subst h
        rw [hi] at hj
        exact Option.some.inj hj
      · have := List.pairwise_iff_getElem.mp hg j i hj1 hi1 h
        rw [e1, e2] at this
        omega
    subst this
    exact List.mem_map.mpr ⟨_, hx, rfl⟩
def spDue : Sp := fun vs H Q _ => ∃ (p : Addr) (ts : List Tal) (m pages now : Int), vs = [.ref p, .int m] ∧ TL H p ts ∧ ts ≠ [] ∧ ts.length ≤ 16 ∧ Good pages now ts ∧ now < 10 ^ 30 ∧ (1 ≤ m ∧ m ≤ 16 ∧ pages ≤ 16) ∧ ∀ H', Same H H' → Q (.int (winB m.toNat ts).b) H'
theorem ok_due (T : Txt K mg) : FO P w K mg base 1 T.a__law_due T.fd__law_due ["_law_tallies_here", "_law_many"] spDue := by
  have sc := sc__law_due
  refine T.F__law_due.okX sc (fun vs H Q E h => ?_) (fun cdv A outer s H vs Q E hr h => ?_)
  · obtain ⟨_, _, _, _, _, rfl, _⟩ := h
    rfl
  · obtain ⟨p, ts, m, pages, now, rfl, ⟨vs, hvs, hall⟩, hne, hlen, hg, hnow, hm, q⟩ := h
    refine ⟨_, (pss_cons (ps_set (i := 2) sc.nd rfl (by first | exact Or.inl rfl | exact Or.inr rfl) (pe_slice sl_u (pe_callB (cr_sortT (d := 3) (B := 10 ^ 30) (by decide)) (by rfl) T.b_sorted bt_sorted (pa_cons (pe_lc (own := [("_law_tally", 3)]) (by rfl) sc.nd (pi_list (pv 0)) (blkOk_by (own := [("_law_tally", 3)]) (N := N__law_due) (sc := defScope s__law_due) (by decide +kernel)) (fun _ _ _ _ _ => (pg_name (i := 3) sc.nd rfl (by first | exact Or.inl rfl | exact Or.inr rfl))) (fun _ _ _ _ _ => pts_nil) (fun _ _ _ _ _ => (pe_tup (pa_cons (pe_ix (K_ix (K := K)) (pv 3) pe_int (fun _ _ => rfl)) (pa_cons (pe_ix (K_ix (K := K)) (pv 3) pe_int (fun _ _ => rfl)) (pa_cons (pe_ix (K_ix (K := K)) (pv 3) pe_int (fun _ _ => rfl)) pa_nil)))))) pa_nil)) po_none (po_some (pv 1))))
      (pss_one (ps_ret (pe_ix ix_seq (pe_callB (cr_minPO hr.units (by rfl)) (by rfl) T.b_min bt_min (pa_cons (pe_lc (own := [("_law_born", 4), ("_law_block", 5), ("_law_live", 6)]) (by rfl) sc.nd (pi_list (pv 2)) (blkOk_by (own := [("_law_born", 4), ("_law_block", 5), ("_law_live", 6)]) (N := N__law_due) (sc := defScope s__law_due) (by decide +kernel)) (fun _ _ _ _ _ => (K_gtup (K := K) (n := 3) (by rfl) (pgs_cons (pg_name (i := 4) sc.nd rfl (by first | exact Or.inl rfl | exact Or.inr rfl)) (pgs_cons (pg_name (i := 5) sc.nd rfl (by first | exact Or.inl rfl | exact Or.inr rfl)) (pgs_cons (pg_name (i := 6) sc.nd rfl (by first | exact Or.inl rfl | exact Or.inr rfl)) pgs_nil))))) (fun _ _ _ _ _ => pts_nil) (fun _ _ _ _ _ => (pe_tup (pa_cons (pv 6) (pa_cons (pv 5) pa_nil))))) pa_nil)) pe_int (fun _ _ => rfl))))), ?_⟩
    walk_at "begin"
    walk_at "go"
    refine x_lcLK (SqL.of hvs) (fun i acc H' => TupL H' acc ((ts.take i).map tri)) (fun i acc H H' s h => h.mono s) (small64 (by rw [hall.1]; omega)) TupL.nil ?_ ?_
    · intro i x acc H' hx hs' ha NY NN hY hN
      obtain ⟨t, hti, hxt⟩ := hall.get hx
      obtain ⟨a, rfl, ht⟩ := hxt.mono (TupS.of hs')
      have et : ts.take (i + 1) = ts.take i ++ [t] := by rw [List.take_add_one, hti]; rfl
      dsimp only [wipe]
      walk_at "go"
      refine ⟨rfl, ?_⟩
      walk_at "go"
      rename_i tq H4 htq hs4 hn4
      refine hY _ _ hs4 ?_
      show TupL H4 _ _
      rw [et, List.map_append]
      exact (ha.mono (TupS.of hs4)).snoc (e := tri t) ⟨tq, rfl, hn4⟩
    intro p1 xs H1 hp1 hs1 hn1 hpl
    rw [hall.1, List.take_length] at hpl
    have hbd : ∀ t ∈ ts, TS.Bd (10 ^ 30) (tri t) := fun t ht k hk => by
      have := hg.1 t ht
      simp only [tri, List.mem_cons, List.not_mem_nil, or_false] at hk
      have e : (10 : Int) ^ 30 = 1000000000000000000000000000000 := by decide
      rw [e] at hnow ⊢
      rcases hk with rfl | rfl | rfl <;> omega
    walk_at "go"
    refine x_sortT (SqL.of hn1) hpl (by rw [List.length_map]; omega) (fun e he => ?_) fun p2 ys ls H2 hp2 hs2 hn2 hpl2 hperm hsort => ?_
    · obtain ⟨t, ht, rfl⟩ := List.mem_map.mp he
      exact ⟨rfl, hbd t ht⟩
    have hkp := tri_kp hperm hsort hbd
    walk_at "go"
    rename_i sl H3 hsl hs3 hn3
    rw [show cutV ys none (some m) = ys.take m.toNat by rw [← cutV_to m.toNat, Int.toNat_of_nonneg (by omega)]] at hn3
    have hpl3 : TupL H3 (ys.take m.toNat) (ls.take m.toNat) := (hpl2.mono (TupS.of hs3)).take m.toNat
    have hll : ls.length = ts.length := by rw [hperm.length_eq, List.length_map]
    refine x_lcLK (SqL.of hn3) (fun i acc H' => PairL H' acc (((ls.take m.toNat).take i).map lbT)) (fun i acc H H' s h => h.mono s) (small64 (by rw [List.length_take, hpl2.1]; omega)) PairL.nil ?_ ?_
    · intro i x acc H' hx hs' ha NY NN hY hN
      obtain ⟨e, a, he, rfl, hea⟩ := (hpl3.mono (TupS.of hs')).get hx
      have et : (ls.take m.toNat).take (i + 1) = (ls.take m.toNat).take i ++ [e] := by rw [List.take_add_one, he]; rfl
      obtain ⟨t, ht, rfl⟩ := List.mem_map.mp (hperm.mem_iff.mp (List.mem_of_mem_take (List.mem_of_getElem? he)))
      dsimp only [wipe]
      refine x_gtup3 (SqT.of hea) ?_
      dsimp only [List.set]
      walk_at "go"
      refine ⟨rfl, ?_⟩
      walk_at "go"
      rename_i tq H4 htq hs4 hn4
      refine hY _ _ hs4 ?_
      show PairL H4 _ _
      rw [et, List.map_append]
      exact (ha.mono (TupS.of hs4)).snoc (e := lbT (tri t)) ⟨tq, rfl, hn4⟩
    intro p4 zs H4 hp4 hs4 hn4 hpl4
    have elen : (ys.take m.toNat).length = (ls.take m.toNat).length := hpl3.1
    rw [elen, List.take_length] at hpl4
    walk_at "go"
    refine ⟨p4, zs, pairV H4, rfl, SqL.of hn4, fun z => ?_, fun x hx => hpl4.mem hx, fun x hx hle => ?_⟩
    · have := hpl4.1
      rw [z, List.length_map, List.length_take, hll, List.length_nil] at this
      have h0 : 0 < ts.length := List.length_pos_iff.mpr hne
      omega
    · obtain ⟨t, rfl, ht⟩ := hpl4.mem hx
      have hM := tri_mem (m := m.toNat) hperm hkp hg.2
      have eb := winB_least hg.2 (m := m.toNat) (by omega) hne hM (x := pairV H4 (.ref t)) (by rw [← hpl4.map]; exact List.mem_map.mpr ⟨_, hx, rfl⟩) (fun y hy => by
        rw [← hpl4.map] at hy
        obtain ⟨v, hv, rfl⟩ := List.mem_map.mp hy
        exact hle v hv)
      walk_at "go"
      rw [eb]
      exact q _ (((hs1.trans hs2).trans hs3).trans hs4)
theorem x_due {H : Hp} {Q : VK} {E : XK} {p : Addr} {ts : List Tal} {m pages now : Int} (hT : TL H p ts) (hne : ts ≠ []) (hl : ts.length ≤ 16) (hg : Good pages now ts) (hn : now < 10 ^ 30) (hm : 1 ≤ m ∧ m ≤ 16 ∧ pages ≤ 16) (q : ∀ H', Same H H' → Q (.int (winB m.toNat ts).b) H') : spDue [.ref p, .int m] H Q E :=
  ⟨p, ts, m, pages, now, rfl, hT, hne, hl, hg, hn, hm, q⟩
/-! what is refused -/
def spRefused : Sp := fun vs H Q _ => ∃ (v : V) (o : Option Int), vs = [v] ∧ Num v o ∧ inB o 1 16 = false ∧ ∀ H', Same H H' → Q (.bl true) H'
theorem ok_refused (T : Txt K mg) : FO P w K mg base 6 T.a__law_refused T.fd__law_refused ["_law_many"] spRefused := by
  have sc := sc__law_refused
  refine T.F__law_refused.okX sc (fun vs H Q E h => ?_) (fun cdv A outer s H vs Q E hr h => ?_)
  · obtain ⟨_, _, rfl, _⟩ := h
    rfl
  · obtain ⟨v, o, rfl, hn, hb, q⟩ := h
    refine ⟨_, (pss_cons (ps_set (i := 1) sc.nd rfl (by first | exact Or.inl rfl | exact Or.inr rfl) pe_non)
      (pss_cons (ps_tryA (i := 2) rfl rfl sc.nd rfl rfl ⟨rfl, rfl, Or.inl T.g_WornError⟩ (takes_of rfl rfl rfl rfl) (fun W1 pn1 xe1 hW1 hP1 => (pss_one (ps_expr (pe_mkS T.mk_Window (ok_Window_init T) (hr.mono (by decide)) (by rfl) T.g_Window T.bd_Window_init .nil (passAt hW1) (pa_cons (pv 0) pa_nil))))) (fun a1 oe1 cls1 d1 pn1 hz1 hv1 => (pss_one (ps_set (i := 1) sc.nd rfl (by first | exact Or.inl rfl | exact Or.inr rfl) (pe_lst (pa_cons (pe_callB (cr_isXC hz1 hv1) (by rfl) T.b_isinstance bt_isinstance (pa_cons (pv 2) (pa_cons (pe_glob (v := .ref T.C_NoRule) rfl T.g_NoRule rfl) pa_nil))) (pa_cons (pe_callB (cr_isX hz1 hv1) (by rfl) T.b_isinstance bt_isinstance (pa_cons (pv 2) (pa_cons (pe_bltn (v := .ty "ValueError") (by rfl) T.b_ValueError bt_ValueError rfl) pa_nil))) (pa_cons (pe_callB (cr_isXC hz1 hv1) (by rfl) T.b_isinstance bt_isinstance (pa_cons (pv 2) (pa_cons (pe_glob (v := .ref T.C_NoRow) rfl T.g_NoRow rfl) pa_nil))) pa_nil))))))))
      (pss_one (ps_ret (pe_cmpR (op_uEq hr.units) (pv 1) (pe_lst (pa_cons pe_bl (pa_cons pe_bl (pa_cons pe_bl pa_nil)))) (nomark _)))))), ?_⟩
    walk_at "begin"
    walk_at "go"
    rename_i x d H1 hx hd hne hs1 hn1 hdd
    refine ⟨x, d, v, o, rfl, hn1, hn, fun z => absurd (hb.symm.trans z) (by decide), fun _ => ?_⟩
    refine x_asT T.em_NoRule_WornError fun a2 na2 => ?_
    walk_at "go"
    refine x_isXC ?_ T.ec_NoRule T.kc_NoRule_NoRule
    walk_at "go"
    refine x_isX ?_ T.ec_NoRule T.ki_NoRule_ValueError
    walk_at "go"
    refine x_isXC ?_ T.ec_NoRule T.kc_NoRule_NoRow
    walk_at "go"
    rename_i l1 H2 hp2 hs2 hn2 l2 H3 hp3 hs3 hn3
    have dl : ∀ {r : Addr}, H3 r = some (.lst [V.bl true, V.bl true, V.bl false]) → Dp K H3 (.ref r) (.list [.bool true, .bool true, .bool false]) := fun h => .lst (SqL.of h) (.cons (.bl _) (.cons (.bl _) (.cons (.bl _) .nil)))
    refine x_eqS2 (dl (hs3 _ _ hn2)) (dl hn3) (Sh.list (k := 8) fun d hd => ?_) ?_
    · simp only [List.mem_cons, List.not_mem_nil, or_false] at hd
      rcases hd with rfl | rfl | rfl <;> exact Sh.bl
    · exact q _ ((hs1.trans hs2).trans hs3)
theorem x_refused {H : Hp} {Q : VK} {E : XK} {v : V} {o : Option Int} (hn : Num v o) (hb : inB o 1 16 = false) (q : ∀ H', Same H H' → Q (.bl true) H') : spRefused [v] H Q E := ⟨v, o, rfl, hn, hb, q⟩
def spLaw (K : PySem.W.Frag) : Sp := fun vs H Q _ => ∃ (a : Addr) (ns : List Int), vs = [.ref a] ∧ SqL K H a (ns.map V.int) ∧ ns.length ≤ 63 ∧ ∀ H', Q (.bl true) H'
theorem ok_law (T : Txt K mg) : FO P w K mg base 7 T.a_law T.fd_law ["_law_script"] (spLaw K) := by
  have sc := sc_law
  refine T.F_law.okX sc (fun vs H Q E h => ?_) (fun cdv A outer s H vs Q E hr h => ?_)
  · obtain ⟨a, ns, rfl, _⟩ := h
    rfl
  · obtain ⟨a, ns, rfl, hS, hl, q⟩ := h
    refine ⟨_, (pss_cons (ps_set (i := 1) sc.nd rfl (by first | exact Or.inl rfl | exact Or.inr rfl) (pe_op op_uAdd pe_int (pe_op op_mod (pe_callS (ok_cell_at T) (hr.mono (by decide)) (by rfl) T.g__law_cell_at T.k__law_cell_at T.bd__law_cell_at (passAt (takes_of rfl rfl rfl rfl)) (pa_cons (pv 0) (pa_cons pe_int pa_nil))) pe_int)))
      (pss_cons (ps_set (i := 2) sc.nd rfl (by first | exact Or.inl rfl | exact Or.inr rfl) (pe_callS (ok_now T) (hr.mono (by decide)) (by rfl) T.g__law_now T.k__law_now T.bd__law_now (passAt (takes_of rfl rfl rfl rfl)) (pa_cons (pe_callS (ok_cell_at T) (hr.mono (by decide)) (by rfl) T.g__law_cell_at T.k__law_cell_at T.bd__law_cell_at (passAt (takes_of rfl rfl rfl rfl)) (pa_cons (pv 0) (pa_cons pe_int pa_nil))) pa_nil)))
      (pss_cons (ps_set (i := 3) sc.nd rfl (by first | exact Or.inl rfl | exact Or.inr rfl) (pe_callS (ok_tallies T) (hr.mono (by decide)) (by rfl) T.g__law_tallies T.k__law_tallies T.bd__law_tallies (passAt (takes_of rfl rfl rfl rfl)) (pa_cons (pv 0) (pa_cons pe_int (pa_cons (pv 1) (pa_cons (pv 2) pa_nil))))))
      (pss_cons (ps_set (i := 4) sc.nd rfl (by first | exact Or.inl rfl | exact Or.inr rfl) (pe_lst (pa_cons (pe_op op_uAdd pe_int (pe_op op_mod (pe_callS (ok_cell_at T) (hr.mono (by decide)) (by rfl) T.g__law_cell_at T.k__law_cell_at T.bd__law_cell_at (passAt (takes_of rfl rfl rfl rfl)) (pa_cons (pv 0) (pa_cons pe_int pa_nil))) pe_int)) (pa_cons (pe_op op_uAdd pe_int (pe_op op_mod (pe_callS (ok_cell_at T) (hr.mono (by decide)) (by rfl) T.g__law_cell_at T.k__law_cell_at T.bd__law_cell_at (passAt (takes_of rfl rfl rfl rfl)) (pa_cons (pv 0) (pa_cons pe_int pa_nil))) pe_int)) pa_nil))))
      (pss_cons (ps_set (i := 5) sc.nd rfl (by first | exact Or.inl rfl | exact Or.inr rfl) (pe_lst (pa_cons (pe_mkS T.mk_Window (ok_Window_init T) (hr.mono (by decide)) (by rfl) T.g_Window T.bd_Window_init .nil (passAt (takes_of rfl rfl rfl rfl)) (pa_cons (pe_ix ix_seq (pv 4) pe_int (fun _ _ => rfl)) pa_nil)) (pa_cons (pe_mkS T.mk_Window (ok_Window_init T) (hr.mono (by decide)) (by rfl) T.g_Window T.bd_Window_init .nil (passAt (takes_of rfl rfl rfl rfl)) (pa_cons (pe_ix ix_seq (pv 4) pe_int (fun _ _ => rfl)) pa_nil)) pa_nil))))
      (pss_cons (ps_for (passes_of rfl) rfl (pi_list (pe_lst (pa_cons (pe_tup (pa_cons pe_int (pa_cons (pv 3) pa_nil))) (pa_cons (pe_tup (pa_cons pe_int (pa_cons (pe_slice sl_u (pv 3) po_none (po_some pe_int)) pa_nil))) (pa_cons (pe_tup (pa_cons pe_int (pa_cons (pv 3) pa_nil))) (pa_cons (pe_tup (pa_cons pe_int (pa_cons (pv 3) pa_nil))) pa_nil)))))) (pg_tup (by rfl) (pgs_cons (pg_name (i := 6) sc.nd rfl (by first | exact Or.inl rfl | exact Or.inr rfl)) (pgs_cons (pg_name (i := 7) sc.nd rfl (by first | exact Or.inl rfl | exact Or.inr rfl)) pgs_nil))) (pss_cons (ps_set (i := 8) sc.nd rfl (by first | exact Or.inl rfl | exact Or.inr rfl) (pe_callTy ct_list (by rfl) T.b_list bt_list (pa_cons (pv 7) pa_nil)))
      (pss_cons (ps_set (i := 9) sc.nd rfl (by first | exact Or.inl rfl | exact Or.inr rfl) (pe_methD (k := 2) (pe_ix ix_seq (pv 5) (pv 6) (fun _ _ => rfl)) (hr.mono (by decide)) (passAt (takes_of rfl rfl rfl rfl)) (pa_cons (pv 8) (pa_cons (pv 1) (pa_cons (pv 2) pa_nil)))))
      (pss_one (ps_if (PW.pt (pw_or (pt_not (pt_truth (pe_callS (ok_whole T) (hr.mono (by decide)) (by rfl) T.g__law_whole T.k__law_whole T.bd__law_whole (passAt (takes_of rfl rfl rfl rfl)) (pa_cons (pv 9) pa_nil)) (by intro _; rfl))) (pw_or (pt_cmpR (op_uNe hr.units) (pv 9) (pe_callS (ok_due T) (hr.mono (by decide)) (by rfl) T.g__law_due T.k__law_due T.bd__law_due (passAt (takes_of rfl rfl rfl rfl)) (pa_cons (pv 7) (pa_cons (pe_ix ix_seq (pv 4) (pv 6) (fun _ _ => rfl)) pa_nil))) (nomark _)) (pw_or1 (pt_cmpR (op_uNe hr.units) (pv 8) (pv 7) (nomark _)))))) (pss_one (ps_ret pe_bl)) pss_nil)))))
      (pss_cons (ps_set (i := 10) sc.nd rfl (by first | exact Or.inl rfl | exact Or.inr rfl) (pe_op op_mod (pe_callS (ok_cell_at T) (hr.mono (by decide)) (by rfl) T.g__law_cell_at T.k__law_cell_at T.bd__law_cell_at (passAt (takes_of rfl rfl rfl rfl)) (pa_cons (pv 0) (pa_cons pe_int pa_nil))) (pe_op op_pow pe_int pe_int)))
      (pss_cons (ps_for (passes_of rfl) rfl (pi_list (pe_lst (pa_cons pe_int (pa_cons pe_int (pa_cons (pe_op op_uAdd pe_int (pv 10)) (pa_cons (pe_op op_sub (pe_op op_sub pe_int pe_int) (pv 10)) (pa_cons pe_bl (pa_cons pe_bl (pa_cons pe_non (pa_cons pe_str pa_nil)))))))))) (pg_name (i := 11) sc.nd rfl (by first | exact Or.inl rfl | exact Or.inr rfl)) (pss_one (ps_if (pt_not (pt_truth (pe_callS (ok_refused T) (hr.mono (by decide)) (by rfl) T.g__law_refused T.k__law_refused T.bd__law_refused (passAt (takes_of rfl rfl rfl rfl)) (pa_cons (pv 11) pa_nil)) (by intro _; rfl))) (pss_one (ps_ret pe_bl)) pss_nil)))
      (pss_one (ps_ret pe_bl)))))))))), ?_⟩
    walk_at "begin"
    walk_at "go"
    rename_i now hn1 hn2 p ts H1 hs1 hpn hT hne hG hL pm H2 hpm hs2 hm2 w0 d0 H3 hw0 hd0 hne0 hs3 hW0 hod0
    have hp1 : 1 ≤ 1 + cl ns 0 % 16 := by omega
    have hp2 : 1 + cl ns 0 % 16 ≤ 16 := by omega
    have hm0 : 1 ≤ 1 + cl ns 18 % 16 ∧ 1 + cl ns 18 % 16 ≤ 16 := by omega
    have hm1 : 1 ≤ 1 + cl ns 19 % 4 ∧ 1 + cl ns 19 % 4 ≤ 16 := by omega
    generalize 1 + cl ns 0 % 16 = pages at hp1 hp2 hG ⊢
    generalize 1 + cl ns 18 % 16 = m0 at hm0 hm2 ⊢
    generalize 1 + cl ns 19 % 4 = m1 at hm1 hm2 ⊢
    have hpn : PN pages now := ⟨hp1, hp2, hn1, hn2⟩
    refine ⟨w0, d0, _, some m0, rfl, hW0, .int m0, fun _ H4 hO4 hW4 => ⟨rfl, ?_⟩, fun z => absurd z (by show ¬ decide _ = false; rw [decide_eq_true hm0]; decide)⟩
    have hm4 : H4 pm = some (.lst [.int m0, .int m1]) := hO4.at (hs3 _ _ hm2) (nin_of (ne_of_none hm2 hw0))
    have s14 : Same H2 H4 := Off.same1 hs3 hO4 hw0
    walk_at "go"
    rename_i w1 d1 H5 hw1 hd1 hne1 hs5 hW1 hod1
    refine ⟨w1, d1, _, some m1, rfl, hW1, .int m1, fun _ H6 hO6 hW6 => ⟨rfl, ?_⟩, fun z => absurd z (by show ¬ decide _ = false; rw [decide_eq_true hm1]; decide)⟩
    have s46 : Same H4 H6 := Off.same1 hs5 hO6 hw1
    have hW06 := s46 _ _ hW4
    have hm6 := s46 _ _ hm4
    have hok : ∀ t ∈ ts, TOk pages now t := fun t ht => hG.1 t ht
    obtain ⟨tvs, htvs, hall⟩ := hT
    have htvs6 := s46 _ _ (s14 _ _ (hs2 _ _ htvs))
    have s16 : Same H1 H6 := (hs2.trans s14).trans s46
    walk_at "go"
    refine x_seq ?_
    walk_at "go"
    rename_i pl H7 hpl hs7 hl7 t1 H8 ht1 hs8 hn8 sl H9 hsl hs9 hn9 t2 H10 ht2 hs10 hn10 t3 H11 ht3 hs11 hn11 t4 H12 ht4 hs12 hn12 lr H13 hlr hs13 hn13
    rw [show cutV tvs none (some 1) = tvs.take 1 from cutV_to 1] at hn9
    have s9d : Same H9 H13 := ((hs10.trans hs11).trans hs12).trans hs13
    have s6d : Same H6 H13 := ((hs7.trans hs8).trans hs9).trans s9d
    have s7d : Same H7 H13 := (hs8.trans hs9).trans s9d
    have row0 : ∀ {H' : Hp}, Same H13 H' → TL H' p ts := fun s => ⟨tvs, s _ _ (s6d _ _ htvs6), hall.mono (TupS.of ((s16.trans s6d).trans s))⟩
    have row1 : ∀ {H' : Hp}, Same H13 H' → TL H' sl (ts.take 1) := fun s => ⟨tvs.take 1, s _ _ (s9d _ _ hn9), (hall.mono (TupS.of ((s16.trans s6d).trans s))).take 1⟩
    have hG1 : Good pages now (ts.take 1) := ⟨fun t ht => hG.1 t (List.mem_of_mem_take ht), hG.2.sublist (List.take_sublist 1 ts)⟩
    have hrow : ∀ (i : Nat) x, [V.ref t1, V.ref t2, V.ref t3, V.ref t4][i]? = some x → ∃ (k : Int) (t q0 : Addr) (ts' : List Tal), x = .ref t ∧ H13 t = some (.tup [.int k, .ref q0]) ∧ (k = 0 ∨ k = 1) ∧ (∀ {H'}, Same H13 H' → TL H' q0 ts') ∧ ts' ≠ [] ∧ ts'.length ≤ 16 ∧ Good pages now ts' := by
      intro i x h
      match i, h with
      | 0, h => cases h; exact ⟨0, t1, p, ts, rfl, s9d _ _ (hs9 _ _ hn8), .inl rfl, row0, hne, hL, hG⟩
      | 1, h => cases h; exact ⟨0, t2, sl, ts.take 1, rfl, hs13 _ _ (hs12 _ _ (hs11 _ _ hn10)), .inl rfl, row1, fun z => hne (by
          have := congrArg List.length z
          rw [List.length_take, List.length_nil] at this
          exact List.length_eq_zero_iff.mp (by omega)), by rw [List.length_take]; omega, hG1⟩
      | 2, h => cases h; exact ⟨1, t3, p, ts, rfl, hs13 _ _ (hs12 _ _ hn11), .inr rfl, row0, hne, hL, hG⟩
      | 3, h => cases h; exact ⟨0, t4, p, ts, rfl, hs13 _ _ hn12, .inl rfl, row0, hne, hL, hG⟩
    refine x_frL (SqL.of hn13) (fun i σ H' => ∃ (v6 v7 v8 v9 v10 v11 : Option V), σ = [some (.ref a), some (.int pages), some (.int now), some (.ref p), some (.ref pm), some (.ref pl), v6, v7, v8, v9, v10, v11] ∧ Same H13 H')
      ⟨_, _, _, _, _, _, rfl, fun _ _ h => h⟩ (fun i σ H' _ ⟨_, _, _, _, _, _, _, hs'⟩ => hs'.seq (SqL.of hn13)) ?_ ?_
    · intro i x σ H' hx ⟨v6, v7, v8, v9, v10, v11, hσ, hs'⟩
      subst hσ
      obtain ⟨k, t, q0, ts', rfl, ht, hk, hT', hne', hL', hG'⟩ := hrow i x hx
      refine x_gtup2 (SqT.of (hs' _ _ ht)) ?_
      dsimp only [List.set]
      have hT1 := hT' hs'
      obtain ⟨uvs, huvs, huall⟩ := hT1
      obtain ⟨m, w, dw, hm, hmat, hw, hW⟩ : ∃ (m : Int) (w dw : Addr), (1 ≤ m ∧ m ≤ 16) ∧ [V.int m0, V.int m1].getD k.toNat .non = .int m ∧ [V.ref w0, V.ref w1].getD k.toNat .non = .ref w ∧ H13 w = some (.ins T.C_Window dw [("many", .int m)]) := by
        rcases hk with rfl | rfl
        · exact ⟨m0, w0, d0, hm0, rfl, rfl, s6d _ _ hW06⟩
        · exact ⟨m1, w1, d1, hm1, rfl, rfl, s6d _ _ hW6⟩
      have hl' := hs' _ _ (s7d _ _ hl7)
      have hm' := hs' _ _ (s6d _ _ hm6)
      have hk01 : 0 ≤ k ∧ k < 2 := by omega
      have hWl := hs' _ _ hW
      clear hW hrow row0 row1 hT' hn13 hn12 hn11 hn10 hn9 hn8 hl7 hm6 htvs6 hW06 hW6 hW4 hW0 hm4 hm2 htvs hs1 hs2 hs3 hs5 hs7 hs8 hs9 hs10 hs11 hs12 hs13 s9d s6d s7d s16 s46 s14 hO4 hO6 hall hS ht
      walk_at "go"
      rename_i qh H15 hqh hs15 hh15
      rw [hw]
      have hWx := hs15 _ _ hWl
      have hTh : TL H15 qh ts' := ⟨uvs, hh15, huall.mono (TupS.of hs15)⟩
      have hT15 : TL H15 q0 ts' := TL.mono hs15 ⟨uvs, huvs, huall⟩
      refine x_mtK hWx ⟨⟨_, _, _, T.cl_Window, T.m_Window_choose, ok_Window_choose T, T.bd_Window_choose⟩⟩ rfl ?_
      walk_at "go"
      refine ⟨w, dw, qh, pages, now, m, ts', rfl, hWx, hm, hTh, hne', fun t ht => hG'.1 t ht, hL', hpn, fun H16 hs16 => ?_⟩
      walk_at "go"
      rw [hmat]
      refine x_due (hT15.mono hs16) hne' hL' hG' hn2 ⟨hm.1, hm.2, hp2⟩ (fun H17 hs17 => ?_)
      walk_at "go"
      refine x_iteD (fun h => ?_) (fun h => absurd rfl h)
      walk_at "go"
      refine TL.ne ((hTh.mono hs16).mono hs17) ((hT15.mono hs16).mono hs17) ?_
      walk_at "go"
      exact ⟨_, _, _, _, _, _, rfl, ((hs'.trans hs15).trans hs16).trans hs17⟩
    · intro σ H' ⟨v6, v7, v8, v9, v10, v11, hσ, hs'⟩
      subst hσ
      have hS' := ((hs1.trans s16).trans (s6d.trans hs')).seq hS
      clear hrow row0 row1 hn13 hn12 hn11 hn10 hn9 hn8 hl7 hm6 htvs6 hW06 hW6 hW4 hW0 hm4 hm2 htvs hs1 hs2 hs3 hs5 hs7 hs8 hs9 hs10 hs11 hs12 hs13 s9d s6d s7d s16 s46 s14 hO4 hO6 hall hs' hS
      walk_at "go"
      have hf := Int.emod_nonneg (cl ns 20) (show (10 : Int) ^ 30 ≠ 0 by decide)
      generalize cl ns 20 % 10 ^ 30 = far at hf ⊢
      refine x_seq ?_
      walk_at "go"
      rename_i lb H20 hlb hs20 hn20
      have hbad : ∀ (i : Nat) x, [V.int 0, V.int 17, V.int (18 + far), V.int (0 - 1 - far), V.bl true, V.bl false, V.non, V.str (Str.ofString "3")][i]? = some x → ∃ o, Num x o ∧ inB o 1 16 = false := by
        intro i x h
        match i, h with
        | 0, h => cases h; exact ⟨_, .int _, rfl⟩
        | 1, h => cases h; exact ⟨_, .int _, rfl⟩
        | 2, h => cases h; exact ⟨_, .int _, decide_eq_false (by omega)⟩
        | 3, h => cases h; exact ⟨_, .int _, decide_eq_false (by omega)⟩
        | 4, h => cases h; exact ⟨_, .no _ (.inr (.inl ⟨_, rfl⟩)), rfl⟩
        | 5, h => cases h; exact ⟨_, .no _ (.inr (.inl ⟨_, rfl⟩)), rfl⟩
        | 6, h => cases h; exact ⟨_, .no _ (.inl rfl), rfl⟩
        | 7, h => cases h; exact ⟨_, .no _ (.inr (.inr ⟨_, rfl⟩)), rfl⟩
      refine x_frL (SqL.of hn20) (fun i σ H' => ∃ (v11 : Option V), σ = [some (.ref a), some (.int pages), some (.int now), some (.ref p), some (.ref pm), some (.ref pl), v6, v7, v8, v9, some (.int far), v11] ∧ Same H20 H')
        ⟨_, rfl, fun _ _ h => h⟩ (fun i σ H' _ ⟨_, _, hs'⟩ => hs'.seq (SqL.of hn20)) ?_ ?_
      · intro i x σ H' hx ⟨v11, hσ, hs'⟩
        subst hσ
        obtain ⟨o, hn, hb⟩ := hbad i x hx
        walk_at "go"
        refine x_refused hn hb fun H21 hs21 => ?_
        walk_at "go"
        exact ⟨_, rfl, hs'.trans hs21⟩
      · intro σ H' ⟨v11, hσ, hs'⟩
        subst hσ
        walk_at "go"
        exact q _
end

theorem all_mk {l : PySem.W.OpenLaw} {w : World} {K : PySem.W.Frag} {h : Heap} {mg : Str → Option Value} {fa : Addr} (X : K.In h) (G : h.Ns mainGlobals mg) (hfa : mg "law" = some (.ref fa))
    {f_is_whole : Addr} {od_is_whole an_is_whole : Option Addr} {sl_is_whole : Array (Option Value)} {oc_is_whole kV_is_whole dc_is_whole pm_is_whole cd_is_whole ct_is_whole : Value}
    {f_is_within : Addr} {od_is_within an_is_within : Option Addr} {sl_is_within : Array (Option Value)} {oc_is_within kV_is_within dc_is_within pm_is_within cd_is_within ct_is_within : Value}
    {f_Rule_goes_ahead : Addr} {od_Rule_goes_ahead an_Rule_goes_ahead : Option Addr} {sl_Rule_goes_ahead : Array (Option Value)} {oc_Rule_goes_ahead kV_Rule_goes_ahead dc_Rule_goes_ahead pm_Rule_goes_ahead cd_Rule_goes_ahead ct_Rule_goes_ahead : Value}
    {f_Rule_choose : Addr} {od_Rule_choose an_Rule_choose : Option Addr} {sl_Rule_choose : Array (Option Value)} {oc_Rule_choose kV_Rule_choose dc_Rule_choose pm_Rule_choose cd_Rule_choose ct_Rule_choose : Value}
    {f_Fewest_goes_ahead : Addr} {od_Fewest_goes_ahead an_Fewest_goes_ahead : Option Addr} {sl_Fewest_goes_ahead : Array (Option Value)} {oc_Fewest_goes_ahead kV_Fewest_goes_ahead dc_Fewest_goes_ahead pm_Fewest_goes_ahead cd_Fewest_goes_ahead ct_Fewest_goes_ahead : Value}
    {f_Window_init : Addr} {od_Window_init an_Window_init : Option Addr} {sl_Window_init : Array (Option Value)} {oc_Window_init kV_Window_init dc_Window_init pm_Window_init cd_Window_init ct_Window_init : Value}
    {f_Window_choose : Addr} {od_Window_choose an_Window_choose : Option Addr} {sl_Window_choose : Array (Option Value)} {oc_Window_choose kV_Window_choose dc_Window_choose pm_Window_choose cd_Window_choose ct_Window_choose : Value}
    {f__law_cell_at : Addr} {od__law_cell_at an__law_cell_at : Option Addr} {sl__law_cell_at : Array (Option Value)} {oc__law_cell_at kV__law_cell_at dc__law_cell_at pm__law_cell_at cd__law_cell_at ct__law_cell_at : Value}
    {f__law_whole : Addr} {od__law_whole an__law_whole : Option Addr} {sl__law_whole : Array (Option Value)} {oc__law_whole kV__law_whole dc__law_whole pm__law_whole cd__law_whole ct__law_whole : Value}
    {f__law_now : Addr} {od__law_now an__law_now : Option Addr} {sl__law_now : Array (Option Value)} {oc__law_now kV__law_now dc__law_now pm__law_now cd__law_now ct__law_now : Value}
    {f__law_tallies : Addr} {od__law_tallies an__law_tallies : Option Addr} {sl__law_tallies : Array (Option Value)} {oc__law_tallies kV__law_tallies dc__law_tallies pm__law_tallies cd__law_tallies ct__law_tallies : Value}
    {f__law_due : Addr} {od__law_due an__law_due : Option Addr} {sl__law_due : Array (Option Value)} {oc__law_due kV__law_due dc__law_due pm__law_due cd__law_due ct__law_due : Value}
    {f__law_refused : Addr} {od__law_refused an__law_refused : Option Addr} {sl__law_refused : Array (Option Value)} {oc__law_refused kV__law_refused dc__law_refused pm__law_refused cd__law_refused ct__law_refused : Value}
    {f_law : Addr} {od_law an_law : Option Addr} {sl_law : Array (Option Value)} {oc_law kV_law dc_law pm_law cd_law ct_law : Value}
    {C_Rule : Addr}
    {C_Fewest : Addr}
    {C_Window : Addr}
    {C_WornError : Addr}
    {C_NoRule : Addr}
    {C_NoRow : Addr}
    (a_is_whole : PySem.W.nsIn K mainGlobals "is_whole" = some (some (.ref f_is_whole)))
    (l_is_whole : K.lookup f_is_whole = some ⟨oc_is_whole, od_is_whole, .func (PySem.W.fnOf "is_whole" "is_whole" (defArgs s_is_whole) (defBody s_is_whole) (defScope s_is_whole) .none kV_is_whole dc_is_whole pm_is_whole an_is_whole cd_is_whole ct_is_whole), sl_is_whole⟩)
    (c_is_whole : PySem.W.codeIn K cd_is_whole "is_whole" = true)
    (k_is_whole : PySem.W.keepIn K (.ref f_is_whole) = true)
    (a_is_within : PySem.W.nsIn K mainGlobals "is_within" = some (some (.ref f_is_within)))
    (l_is_within : K.lookup f_is_within = some ⟨oc_is_within, od_is_within, .func (PySem.W.fnOf "is_within" "is_within" (defArgs s_is_within) (defBody s_is_within) (defScope s_is_within) .none kV_is_within dc_is_within pm_is_within an_is_within cd_is_within ct_is_within), sl_is_within⟩)
    (c_is_within : PySem.W.codeIn K cd_is_within "is_within" = true)
    (k_is_within : PySem.W.keepIn K (.ref f_is_within) = true)
    (l_Rule_goes_ahead : K.lookup f_Rule_goes_ahead = some ⟨oc_Rule_goes_ahead, od_Rule_goes_ahead, .func (PySem.W.fnOf "goes_ahead" "Rule.goes_ahead" (defArgs s_Rule_goes_ahead) (defBody s_Rule_goes_ahead) (defScope s_Rule_goes_ahead) .none kV_Rule_goes_ahead dc_Rule_goes_ahead pm_Rule_goes_ahead an_Rule_goes_ahead cd_Rule_goes_ahead ct_Rule_goes_ahead), sl_Rule_goes_ahead⟩)
    (c_Rule_goes_ahead : PySem.W.codeIn K cd_Rule_goes_ahead "Rule.goes_ahead" = true)
    (k_Rule_goes_ahead : PySem.W.keepIn K (.ref f_Rule_goes_ahead) = true)
    (l_Rule_choose : K.lookup f_Rule_choose = some ⟨oc_Rule_choose, od_Rule_choose, .func (PySem.W.fnOf "choose" "Rule.choose" (defArgs s_Rule_choose) (defBody s_Rule_choose) (defScope s_Rule_choose) .none kV_Rule_choose dc_Rule_choose pm_Rule_choose an_Rule_choose cd_Rule_choose ct_Rule_choose), sl_Rule_choose⟩)
    (c_Rule_choose : PySem.W.codeIn K cd_Rule_choose "Rule.choose" = true)
    (k_Rule_choose : PySem.W.keepIn K (.ref f_Rule_choose) = true)
    (l_Fewest_goes_ahead : K.lookup f_Fewest_goes_ahead = some ⟨oc_Fewest_goes_ahead, od_Fewest_goes_ahead, .func (PySem.W.fnOf "goes_ahead" "Fewest.goes_ahead" (defArgs s_Fewest_goes_ahead) (defBody s_Fewest_goes_ahead) (defScope s_Fewest_goes_ahead) .none kV_Fewest_goes_ahead dc_Fewest_goes_ahead pm_Fewest_goes_ahead an_Fewest_goes_ahead cd_Fewest_goes_ahead ct_Fewest_goes_ahead), sl_Fewest_goes_ahead⟩)
    (c_Fewest_goes_ahead : PySem.W.codeIn K cd_Fewest_goes_ahead "Fewest.goes_ahead" = true)
    (k_Fewest_goes_ahead : PySem.W.keepIn K (.ref f_Fewest_goes_ahead) = true)
    (l_Window_init : K.lookup f_Window_init = some ⟨oc_Window_init, od_Window_init, .func (PySem.W.fnOf "__init__" "Window.__init__" (defArgs s_Window_init) (defBody s_Window_init) (defScope s_Window_init) .none kV_Window_init dc_Window_init pm_Window_init an_Window_init cd_Window_init ct_Window_init), sl_Window_init⟩)
    (c_Window_init : PySem.W.codeIn K cd_Window_init "Window.__init__" = true)
    (k_Window_init : PySem.W.keepIn K (.ref f_Window_init) = true)
    (l_Window_choose : K.lookup f_Window_choose = some ⟨oc_Window_choose, od_Window_choose, .func (PySem.W.fnOf "choose" "Window.choose" (defArgs s_Window_choose) (defBody s_Window_choose) (defScope s_Window_choose) .none kV_Window_choose dc_Window_choose pm_Window_choose an_Window_choose cd_Window_choose ct_Window_choose), sl_Window_choose⟩)
    (c_Window_choose : PySem.W.codeIn K cd_Window_choose "Window.choose" = true)
    (k_Window_choose : PySem.W.keepIn K (.ref f_Window_choose) = true)
    (a__law_cell_at : PySem.W.nsIn K mainGlobals "_law_cell_at" = some (some (.ref f__law_cell_at)))
    (l__law_cell_at : K.lookup f__law_cell_at = some ⟨oc__law_cell_at, od__law_cell_at, .func (PySem.W.fnOf "_law_cell_at" "_law_cell_at" (defArgs s__law_cell_at) (defBody s__law_cell_at) (defScope s__law_cell_at) .none kV__law_cell_at dc__law_cell_at pm__law_cell_at an__law_cell_at cd__law_cell_at ct__law_cell_at), sl__law_cell_at⟩)
    (c__law_cell_at : PySem.W.codeIn K cd__law_cell_at "_law_cell_at" = true)
    (k__law_cell_at : PySem.W.keepIn K (.ref f__law_cell_at) = true)
    (a__law_whole : PySem.W.nsIn K mainGlobals "_law_whole" = some (some (.ref f__law_whole)))
    (l__law_whole : K.lookup f__law_whole = some ⟨oc__law_whole, od__law_whole, .func (PySem.W.fnOf "_law_whole" "_law_whole" (defArgs s__law_whole) (defBody s__law_whole) (defScope s__law_whole) .none kV__law_whole dc__law_whole pm__law_whole an__law_whole cd__law_whole ct__law_whole), sl__law_whole⟩)
    (c__law_whole : PySem.W.codeIn K cd__law_whole "_law_whole" = true)
    (k__law_whole : PySem.W.keepIn K (.ref f__law_whole) = true)
    (a__law_now : PySem.W.nsIn K mainGlobals "_law_now" = some (some (.ref f__law_now)))
    (l__law_now : K.lookup f__law_now = some ⟨oc__law_now, od__law_now, .func (PySem.W.fnOf "_law_now" "_law_now" (defArgs s__law_now) (defBody s__law_now) (defScope s__law_now) .none kV__law_now dc__law_now pm__law_now an__law_now cd__law_now ct__law_now), sl__law_now⟩)
    (c__law_now : PySem.W.codeIn K cd__law_now "_law_now" = true)
    (k__law_now : PySem.W.keepIn K (.ref f__law_now) = true)
    (a__law_tallies : PySem.W.nsIn K mainGlobals "_law_tallies" = some (some (.ref f__law_tallies)))
    (l__law_tallies : K.lookup f__law_tallies = some ⟨oc__law_tallies, od__law_tallies, .func (PySem.W.fnOf "_law_tallies" "_law_tallies" (defArgs s__law_tallies) (defBody s__law_tallies) (defScope s__law_tallies) .none kV__law_tallies dc__law_tallies pm__law_tallies an__law_tallies cd__law_tallies ct__law_tallies), sl__law_tallies⟩)
    (c__law_tallies : PySem.W.codeIn K cd__law_tallies "_law_tallies" = true)
    (k__law_tallies : PySem.W.keepIn K (.ref f__law_tallies) = true)
    (a__law_due : PySem.W.nsIn K mainGlobals "_law_due" = some (some (.ref f__law_due)))
    (l__law_due : K.lookup f__law_due = some ⟨oc__law_due, od__law_due, .func (PySem.W.fnOf "_law_due" "_law_due" (defArgs s__law_due) (defBody s__law_due) (defScope s__law_due) .none kV__law_due dc__law_due pm__law_due an__law_due cd__law_due ct__law_due), sl__law_due⟩)
    (c__law_due : PySem.W.codeIn K cd__law_due "_law_due" = true)
    (k__law_due : PySem.W.keepIn K (.ref f__law_due) = true)
    (a__law_refused : PySem.W.nsIn K mainGlobals "_law_refused" = some (some (.ref f__law_refused)))
    (l__law_refused : K.lookup f__law_refused = some ⟨oc__law_refused, od__law_refused, .func (PySem.W.fnOf "_law_refused" "_law_refused" (defArgs s__law_refused) (defBody s__law_refused) (defScope s__law_refused) .none kV__law_refused dc__law_refused pm__law_refused an__law_refused cd__law_refused ct__law_refused), sl__law_refused⟩)
    (c__law_refused : PySem.W.codeIn K cd__law_refused "_law_refused" = true)
    (k__law_refused : PySem.W.keepIn K (.ref f__law_refused) = true)
    (a_law : PySem.W.nsIn K mainGlobals "law" = some (some (.ref f_law)))
    (l_law : K.lookup f_law = some ⟨oc_law, od_law, .func (PySem.W.fnOf "law" "law" (defArgs s_law) (defBody s_law) (defScope s_law) .none kV_law dc_law pm_law an_law cd_law ct_law), sl_law⟩)
    (c_law : PySem.W.codeIn K cd_law "law" = true)
    (k_law : PySem.W.keepIn K (.ref f_law) = true)
    (aC_Rule : PySem.W.nsIn K mainGlobals "Rule" = some (some (.ref C_Rule)))
    (pg_Rule : PySem.W.plainGet K C_Rule Str.empty = true) (hd_Rule : PySem.W.hasDictIn K C_Rule = true) (po_Rule : PySem.W.plainOver K C_Rule = true) (sa_Rule : PySem.W.findIn K (.ref C_Rule) "__setattr__" = some (some (.builtin "object.__setattr__")))
    (mi_Rule : PySem.W.makesIn K C_Rule = true) (kc_Rule : PySem.W.keepIn K (.ref C_Rule) = true) (oi_Rule : PySem.W.findIn K (.ref C_Rule) "__init__" = some (some (.builtin "object.__init__")))
    (at_Rule_goes_ahead : PySem.W.findIn K (.ref C_Rule) "goes_ahead" = some (some (.ref f_Rule_goes_ahead)))
    (fn_Rule_goes_ahead : PySem.W.isFn K (.ref f_Rule_goes_ahead) = true)
    (at_Rule_choose : PySem.W.findIn K (.ref C_Rule) "choose" = some (some (.ref f_Rule_choose)))
    (fn_Rule_choose : PySem.W.isFn K (.ref f_Rule_choose) = true)
    (aC_Fewest : PySem.W.nsIn K mainGlobals "Fewest" = some (some (.ref C_Fewest)))
    (pg_Fewest : PySem.W.plainGet K C_Fewest Str.empty = true) (hd_Fewest : PySem.W.hasDictIn K C_Fewest = true) (po_Fewest : PySem.W.plainOver K C_Fewest = true) (sa_Fewest : PySem.W.findIn K (.ref C_Fewest) "__setattr__" = some (some (.builtin "object.__setattr__")))
    (mi_Fewest : PySem.W.makesIn K C_Fewest = true) (kc_Fewest : PySem.W.keepIn K (.ref C_Fewest) = true) (oi_Fewest : PySem.W.findIn K (.ref C_Fewest) "__init__" = some (some (.builtin "object.__init__")))
    (at_Fewest_goes_ahead : PySem.W.findIn K (.ref C_Fewest) "goes_ahead" = some (some (.ref f_Fewest_goes_ahead)))
    (fn_Fewest_goes_ahead : PySem.W.isFn K (.ref f_Fewest_goes_ahead) = true)
    (at_Fewest_choose : PySem.W.findIn K (.ref C_Fewest) "choose" = some (some (.ref f_Rule_choose)))
    (fn_Fewest_choose : PySem.W.isFn K (.ref f_Rule_choose) = true)
    (aC_Window : PySem.W.nsIn K mainGlobals "Window" = some (some (.ref C_Window)))
    (pg_Window : PySem.W.plainGet K C_Window Str.empty = true) (hd_Window : PySem.W.hasDictIn K C_Window = true) (po_Window : PySem.W.plainOver K C_Window = true) (sa_Window : PySem.W.findIn K (.ref C_Window) "__setattr__" = some (some (.builtin "object.__setattr__")))
    (na_Window_many : PySem.W.findIn K (.ref C_Window) "many" = some none)
    (at_Window_goes_ahead : PySem.W.findIn K (.ref C_Window) "goes_ahead" = some (some (.ref f_Fewest_goes_ahead)))
    (fn_Window_goes_ahead : PySem.W.isFn K (.ref f_Fewest_goes_ahead) = true)
    (at_Window_choose : PySem.W.findIn K (.ref C_Window) "choose" = some (some (.ref f_Window_choose)))
    (fn_Window_choose : PySem.W.isFn K (.ref f_Window_choose) = true)
    (at_Window_init : PySem.W.findIn K (.ref C_Window) "__init__" = some (some (.ref f_Window_init)))
    (fn_Window_init : PySem.W.isFn K (.ref f_Window_init) = true)
    (mi_Window : PySem.W.makesIn K C_Window = true) (kc_Window : PySem.W.keepIn K (.ref C_Window) = true)
    (aC_WornError : PySem.W.nsIn K mainGlobals "WornError" = some (some (.ref C_WornError)))
    (xq_WornError : PySem.W.excIn K C_WornError [.type "ValueError", .type "Exception", .type "BaseException", .type "object"] "ValueError.__new__" = true) (xk_WornError : PySem.W.keepIn K (.ref C_WornError) = true) (xr_WornError : PySem.W.subIn K (.ref C_WornError) (.type "BaseException") = some true) (xt_WornError : PySem.W.typeIn K (.ref C_WornError) = some (.type "type"))
    (aC_NoRule : PySem.W.nsIn K mainGlobals "NoRule" = some (some (.ref C_NoRule)))
    (xq_NoRule : PySem.W.excIn K C_NoRule [.type "ValueError", .type "Exception", .type "BaseException", .type "object"] "ValueError.__new__" = true) (xk_NoRule : PySem.W.keepIn K (.ref C_NoRule) = true) (xr_NoRule : PySem.W.subIn K (.ref C_NoRule) (.type "BaseException") = some true) (xt_NoRule : PySem.W.typeIn K (.ref C_NoRule) = some (.type "type"))
    (aC_NoRow : PySem.W.nsIn K mainGlobals "NoRow" = some (some (.ref C_NoRow)))
    (xq_NoRow : PySem.W.excIn K C_NoRow [.type "ValueError", .type "Exception", .type "BaseException", .type "object"] "ValueError.__new__" = true) (xk_NoRow : PySem.W.keepIn K (.ref C_NoRow) = true) (xr_NoRow : PySem.W.subIn K (.ref C_NoRow) (.type "BaseException") = some true) (xt_NoRow : PySem.W.typeIn K (.ref C_NoRow) = some (.type "type"))
    (em_NoRule_WornError : PySem.W.exmOne K (.ref C_NoRule) (.ref C_WornError) = some true)
    (eg_NoRule : PySem.W.findIn K (.ref C_NoRule) "__getattribute__" = some (some (.builtin "BaseException.__getattribute__"))) (ek_NoRule : PySem.W.findIn K (.ref C_NoRule) "__getattr__" = some none) (es_NoRule : PySem.W.subIn K (.ref C_NoRule) (.type "BaseException") = some true) (ed_NoRule : PySem.W.hasDictIn K C_NoRule = true) (ea_NoRule : PySem.W.findIn K (.ref C_NoRule) "__class__" = some (some (.builtin "object.__class__"))) (en_NoRule : PySem.W.specialIn K (.builtin "object.__class__") "__get__" = some (some (.builtin "getset_descriptor.__get__"))) (et_NoRule : PySem.W.takesIn K (.builtin "object.__class__") = some true) (eo_NoRule : PySem.W.mroIn K C_NoRule (.type "object") = some true) (ki_NoRule_ValueError : PySem.W.kitOne K (.ref C_NoRule) (.type "ValueError") = some true)
    (kd_NoRule_NoRule : PySem.W.kitOne K (.ref C_NoRule) (.ref C_NoRule) = some true)
    (kd_NoRule_NoRow : PySem.W.kitOne K (.ref C_NoRule) (.ref C_NoRow) = some false)
    (z_len : PySem.W.nsIn K mainGlobals "len" = some none)
    (z_isinstance : PySem.W.nsIn K mainGlobals "isinstance" = some none)
    (z_min : PySem.W.nsIn K mainGlobals "min" = some none)
    (z_sorted : PySem.W.nsIn K mainGlobals "sorted" = some none)
    (z_int : PySem.W.nsIn K mainGlobals "int" = some none)
    (z_list : PySem.W.nsIn K mainGlobals "list" = some none)
    (z_bool : PySem.W.nsIn K mainGlobals "bool" = some none)
    (z_range : PySem.W.nsIn K mainGlobals "range" = some none)
    (z_ValueError : PySem.W.nsIn K mainGlobals "ValueError" = some none) :
    ∃ fd : FuncData, (∀ (s : Shared) (v : Value), BindsTo s fd ⟨[v], []⟩ [("_law_script", v)]) ∧ ∀ base : Heap, K.In base → base.Ns mainGlobals mg → FnOk l.prog w K mg base (L2.CX l.prog w) 7 fa fd ["_law_script"] (spLaw K) := by
  have e := hfa.symm.trans (PySem.W.mg_of X G a_law)
  cases e
  have F_is_whole := fun_mk (st := s_is_whole) l_is_whole c_is_whole k_is_whole
  have b_is_whole := F_is_whole.binds (ps := ["thing"]) fun _ _ _ _ _ _ us hl => match us, hl with | [_], _ => rfl
  have F_is_within := fun_mk (st := s_is_within) l_is_within c_is_within k_is_within
  have b_is_within := F_is_within.binds (ps := ["thing", "low", "high"]) fun _ _ _ _ _ _ us hl => match us, hl with | [_, _, _], _ => rfl
  have F_Rule_goes_ahead := fun_mk (st := s_Rule_goes_ahead) l_Rule_goes_ahead c_Rule_goes_ahead k_Rule_goes_ahead
  have b_Rule_goes_ahead := F_Rule_goes_ahead.binds (ps := ["self", "one", "other", "pages", "now"]) fun _ _ _ _ _ _ us hl => match us, hl with | [_, _, _, _, _], _ => rfl
  have F_Rule_choose := fun_mk (st := s_Rule_choose) l_Rule_choose c_Rule_choose k_Rule_choose
  have b_Rule_choose := F_Rule_choose.binds (ps := ["self", "tallies", "pages", "now"]) fun _ _ _ _ _ _ us hl => match us, hl with | [_, _, _, _], _ => rfl
  have F_Fewest_goes_ahead := fun_mk (st := s_Fewest_goes_ahead) l_Fewest_goes_ahead c_Fewest_goes_ahead k_Fewest_goes_ahead
  have b_Fewest_goes_ahead := F_Fewest_goes_ahead.binds (ps := ["self", "one", "other", "pages", "now"]) fun _ _ _ _ _ _ us hl => match us, hl with | [_, _, _, _, _], _ => rfl
  have F_Window_init := fun_mk (st := s_Window_init) l_Window_init c_Window_init k_Window_init
  have b_Window_init := F_Window_init.binds (ps := ["self", "many"]) fun _ _ _ _ _ _ us hl => match us, hl with | [_, _], _ => rfl
  have F_Window_choose := fun_mk (st := s_Window_choose) l_Window_choose c_Window_choose k_Window_choose
  have b_Window_choose := F_Window_choose.binds (ps := ["self", "tallies", "pages", "now"]) fun _ _ _ _ _ _ us hl => match us, hl with | [_, _, _, _], _ => rfl
  have F__law_cell_at := fun_mk (st := s__law_cell_at) l__law_cell_at c__law_cell_at k__law_cell_at
  have b__law_cell_at := F__law_cell_at.binds (ps := ["_law_script", "_law_k"]) fun _ _ _ _ _ _ us hl => match us, hl with | [_, _], _ => rfl
  have F__law_whole := fun_mk (st := s__law_whole) l__law_whole c__law_whole k__law_whole
  have b__law_whole := F__law_whole.binds (ps := ["_law_found"]) fun _ _ _ _ _ _ us hl => match us, hl with | [_], _ => rfl
  have F__law_now := fun_mk (st := s__law_now) l__law_now c__law_now k__law_now
  have b__law_now := F__law_now.binds (ps := ["_law_cell"]) fun _ _ _ _ _ _ us hl => match us, hl with | [_], _ => rfl
  have F__law_tallies := fun_mk (st := s__law_tallies) l__law_tallies c__law_tallies k__law_tallies
  have b__law_tallies := F__law_tallies.binds (ps := ["_law_script", "_law_start", "_law_pages", "_law_now_here"]) fun _ _ _ _ _ _ us hl => match us, hl with | [_, _, _, _], _ => rfl
  have F__law_due := fun_mk (st := s__law_due) l__law_due c__law_due k__law_due
  have b__law_due := F__law_due.binds (ps := ["_law_tallies_here", "_law_many"]) fun _ _ _ _ _ _ us hl => match us, hl with | [_, _], _ => rfl
  have F__law_refused := fun_mk (st := s__law_refused) l__law_refused c__law_refused k__law_refused
  have b__law_refused := F__law_refused.binds (ps := ["_law_many"]) fun _ _ _ _ _ _ us hl => match us, hl with | [_], _ => rfl
  have F_law := fun_mk (st := s_law) l_law c_law k_law
  have b_law := F_law.binds (ps := ["_law_script"]) fun _ _ _ _ _ _ us hl => match us, hl with | [_], _ => rfl
  let T : Txt K mg := {
    a_is_whole := f_is_whole
    fd_is_whole := _
    F_is_whole := F_is_whole
    bd_is_whole := b_is_whole
    k_is_whole := k_is_whole
    g_is_whole := PySem.W.mg_of X G a_is_whole
    a_is_within := f_is_within
    fd_is_within := _
    F_is_within := F_is_within
    bd_is_within := b_is_within
    k_is_within := k_is_within
    g_is_within := PySem.W.mg_of X G a_is_within
    a_Rule_goes_ahead := f_Rule_goes_ahead
    fd_Rule_goes_ahead := _
    F_Rule_goes_ahead := F_Rule_goes_ahead
    bd_Rule_goes_ahead := b_Rule_goes_ahead
    k_Rule_goes_ahead := k_Rule_goes_ahead
    a_Rule_choose := f_Rule_choose
    fd_Rule_choose := _
    F_Rule_choose := F_Rule_choose
    bd_Rule_choose := b_Rule_choose
    k_Rule_choose := k_Rule_choose
    a_Fewest_goes_ahead := f_Fewest_goes_ahead
    fd_Fewest_goes_ahead := _
    F_Fewest_goes_ahead := F_Fewest_goes_ahead
    bd_Fewest_goes_ahead := b_Fewest_goes_ahead
    k_Fewest_goes_ahead := k_Fewest_goes_ahead
    a_Window_init := f_Window_init
    fd_Window_init := _
    F_Window_init := F_Window_init
    bd_Window_init := b_Window_init
    k_Window_init := k_Window_init
    a_Window_choose := f_Window_choose
    fd_Window_choose := _
    F_Window_choose := F_Window_choose
    bd_Window_choose := b_Window_choose
    k_Window_choose := k_Window_choose
    a__law_cell_at := f__law_cell_at
    fd__law_cell_at := _
    F__law_cell_at := F__law_cell_at
    bd__law_cell_at := b__law_cell_at
    k__law_cell_at := k__law_cell_at
    g__law_cell_at := PySem.W.mg_of X G a__law_cell_at
    a__law_whole := f__law_whole
    fd__law_whole := _
    F__law_whole := F__law_whole
    bd__law_whole := b__law_whole
    k__law_whole := k__law_whole
    g__law_whole := PySem.W.mg_of X G a__law_whole
    a__law_now := f__law_now
    fd__law_now := _
    F__law_now := F__law_now
    bd__law_now := b__law_now
    k__law_now := k__law_now
    g__law_now := PySem.W.mg_of X G a__law_now
    a__law_tallies := f__law_tallies
    fd__law_tallies := _
    F__law_tallies := F__law_tallies
    bd__law_tallies := b__law_tallies
    k__law_tallies := k__law_tallies
    g__law_tallies := PySem.W.mg_of X G a__law_tallies
    a__law_due := f__law_due
    fd__law_due := _
    F__law_due := F__law_due
    bd__law_due := b__law_due
    k__law_due := k__law_due
    g__law_due := PySem.W.mg_of X G a__law_due
    a__law_refused := f__law_refused
    fd__law_refused := _
    F__law_refused := F__law_refused
    bd__law_refused := b__law_refused
    k__law_refused := k__law_refused
    g__law_refused := PySem.W.mg_of X G a__law_refused
    a_law := fa
    fd_law := _
    F_law := F_law
    bd_law := b_law
    k_law := k_law
    C_Rule := C_Rule
    g_Rule := PySem.W.mg_of X G aC_Rule
    cl_Rule := ⟨pg_Rule, hd_Rule, po_Rule, sa_Rule⟩
    mk0_Rule := ⟨mi_Rule, oi_Rule, kc_Rule⟩
    m_Rule_goes_ahead := ⟨at_Rule_goes_ahead, fn_Rule_goes_ahead, k_Rule_goes_ahead⟩
    m_Rule_choose := ⟨at_Rule_choose, fn_Rule_choose, k_Rule_choose⟩
    C_Fewest := C_Fewest
    g_Fewest := PySem.W.mg_of X G aC_Fewest
    cl_Fewest := ⟨pg_Fewest, hd_Fewest, po_Fewest, sa_Fewest⟩
    mk0_Fewest := ⟨mi_Fewest, oi_Fewest, kc_Fewest⟩
    m_Fewest_goes_ahead := ⟨at_Fewest_goes_ahead, fn_Fewest_goes_ahead, k_Fewest_goes_ahead⟩
    m_Fewest_choose := ⟨at_Fewest_choose, fn_Fewest_choose, k_Rule_choose⟩
    C_Window := C_Window
    g_Window := PySem.W.mg_of X G aC_Window
    cl_Window := ⟨pg_Window, hd_Window, po_Window, sa_Window⟩
    na_Window_many := na_Window_many
    m_Window_goes_ahead := ⟨at_Window_goes_ahead, fn_Window_goes_ahead, k_Fewest_goes_ahead⟩
    m_Window_choose := ⟨at_Window_choose, fn_Window_choose, k_Window_choose⟩
    mk_Window := ⟨mi_Window, at_Window_init, fn_Window_init, kc_Window⟩
    C_WornError := C_WornError
    g_WornError := PySem.W.mg_of X G aC_WornError
    xc_WornError := ⟨xq_WornError, xk_WornError, xr_WornError, xt_WornError⟩
    C_NoRule := C_NoRule
    g_NoRule := PySem.W.mg_of X G aC_NoRule
    xc_NoRule := ⟨xq_NoRule, xk_NoRule, xr_NoRule, xt_NoRule⟩
    C_NoRow := C_NoRow
    g_NoRow := PySem.W.mg_of X G aC_NoRow
    xc_NoRow := ⟨xq_NoRow, xk_NoRow, xr_NoRow, xt_NoRow⟩
    em_NoRule_WornError := em_NoRule_WornError
    ec_NoRule := ⟨eg_NoRule, ek_NoRule, es_NoRule, ed_NoRule, ea_NoRule, en_NoRule, et_NoRule, eo_NoRule⟩
    ki_NoRule_ValueError := ki_NoRule_ValueError
    kc_NoRule_NoRule := kd_NoRule_NoRule
    kc_NoRule_NoRow := kd_NoRule_NoRow
    b_len := PySem.W.mg_none_of X G z_len
    b_isinstance := PySem.W.mg_none_of X G z_isinstance
    b_min := PySem.W.mg_none_of X G z_min
    b_sorted := PySem.W.mg_none_of X G z_sorted
    b_int := PySem.W.mg_none_of X G z_int
    b_list := PySem.W.mg_none_of X G z_list
    b_bool := PySem.W.mg_none_of X G z_bool
    b_range := PySem.W.mg_none_of X G z_range
    b_ValueError := PySem.W.mg_none_of X G z_ValueError }
  exact ⟨T.fd_law, fun s v => .of_eq rfl, fun base _ _ => ok_law T⟩
theorem walk {l : PySem.W.OpenLaw} {q : Program} {loose : List Str} {XP : (Str → Option Value) → Heap → Prop} {YP : World → Heap → Prop} {d : DefRec} {K : Params → PySem.W.Frag} (hn : l.most = some 63) (hdf : d.params.defaults = [])
    (hY : ∀ (w : World) (h : Heap), YP w h → (K w.params).In h)
    (F : ∀ (w : World) (mg : Str → Option Value) (fa : Addr) (h : Heap), (K w.params).In h → h.Ns mainGlobals mg → mg d.name = some (.ref fa) →
      ∃ fd : FuncData, (∀ (s : Shared) (u : Value), BindsTo s fd ⟨[u], []⟩ [("_law_script", u)]) ∧ ∀ base : Heap, (K w.params).In base → base.Ns mainGlobals mg → FnOk l.prog w (K w.params) mg base (L2.CX l.prog w) 7 fa fd ["_law_script"] (spLaw (K w.params))) :
    PySem.W.WalkO q loose XP YP l.row.toRowW d [] (fun f vs => PySem.call f vs) :=
  L2.walk_of (n := 63) (k := 7) (x := "_law_script") (CX := fun w => L2.CX l.prog w) (sp := fun w => spLaw (K w.params)) hn (by decide) hdf ⟨rfl, by decide, by decide⟩ hY F (fun _ _ a ns hl _ hS => ⟨a, ns, rfl, hS, hl, fun _ => rfl⟩) (fun _ _ _ _ _ z => by
    obtain ⟨_, _, _, _, _, _, _, _, _, _, _, _, z⟩ := z
    exact z.elim)
end My
open PySem PySem.W PyProof.Rows
set_option maxRecDepth 100000 in
set_option maxHeartbeats 0 in
set_option pp.maxSteps 300 in
theorem PySem.Challenge.cw_wornpages_k27_window_holds : PySem.Challenge.rw_wornpages_k27_window.Holds := by
  w_on; o_law; k_head; (case hw => w_witness2)
  k_fill
  refine My.walk (l := PySem.Challenge.rw_wornpages_k27_window) rfl rfl (fun w h Y => PySem.W.kIn_of Y) ?F
  case F =>
    intro w mg fa h KX G hmg
    refine' My.all_mk KX G hmg ?a_is_whole ?l_is_whole ?c_is_whole ?k_is_whole ?a_is_within ?l_is_within ?c_is_within ?k_is_within ?l_Rule_goes_ahead ?c_Rule_goes_ahead ?k_Rule_goes_ahead ?l_Rule_choose ?c_Rule_choose ?k_Rule_choose ?l_Fewest_goes_ahead ?c_Fewest_goes_ahead ?k_Fewest_goes_ahead ?l_Window_init ?c_Window_init ?k_Window_init ?l_Window_choose ?c_Window_choose ?k_Window_choose ?a__law_cell_at ?l__law_cell_at ?c__law_cell_at ?k__law_cell_at ?a__law_whole ?l__law_whole ?c__law_whole ?k__law_whole ?a__law_now ?l__law_now ?c__law_now ?k__law_now ?a__law_tallies ?l__law_tallies ?c__law_tallies ?k__law_tallies ?a__law_due ?l__law_due ?c__law_due ?k__law_due ?a__law_refused ?l__law_refused ?c__law_refused ?k__law_refused ?a_law ?l_law ?c_law ?k_law ?aC_Rule ?pg_Rule ?hd_Rule ?po_Rule ?sa_Rule ?mi_Rule ?kc_Rule ?oi_Rule ?at_Rule_goes_ahead ?fn_Rule_goes_ahead ?at_Rule_choose ?fn_Rule_choose ?aC_Fewest ?pg_Fewest ?hd_Fewest ?po_Fewest ?sa_Fewest ?mi_Fewest ?kc_Fewest ?oi_Fewest ?at_Fewest_goes_ahead ?fn_Fewest_goes_ahead ?at_Fewest_choose ?fn_Fewest_choose ?aC_Window ?pg_Window ?hd_Window ?po_Window ?sa_Window ?na_Window_many ?at_Window_goes_ahead ?fn_Window_goes_ahead ?at_Window_choose ?fn_Window_choose ?at_Window_init ?fn_Window_init ?mi_Window ?kc_Window ?aC_WornError ?xq_WornError ?xk_WornError ?xr_WornError ?xt_WornError ?aC_NoRule ?xq_NoRule ?xk_NoRule ?xr_NoRule ?xt_NoRule ?aC_NoRow ?xq_NoRow ?xk_NoRow ?xr_NoRow ?xt_NoRow ?em_NoRule_WornError ?eg_NoRule ?ek_NoRule ?es_NoRule ?ed_NoRule ?ea_NoRule ?en_NoRule ?et_NoRule ?eo_NoRule ?ki_NoRule_ValueError ?kd_NoRule_NoRule ?kd_NoRule_NoRow ?z_len ?z_isinstance ?z_min ?z_sorted ?z_int ?z_list ?z_bool ?z_range ?z_ValueError
    (case aC_Rule => k_is)
    (case aC_Fewest => k_is)
    (case aC_Window => k_is)
    (case aC_WornError => k_is)
    (case aC_NoRule => k_is)
    (case aC_NoRow => k_is)
    (case at_Rule_goes_ahead => k_is)
    (case at_Rule_choose => k_is)
    (case at_Fewest_goes_ahead => k_is)
    (case at_Fewest_choose => k_is)
    (case at_Window_goes_ahead => k_is)
    (case at_Window_choose => k_is)
    (case at_Window_init => k_is)
    (case a_is_whole => k_is)
    (case l_is_whole => k_is)
    (case c_is_whole => k_is)
    (case k_is_whole => k_is)
    (case a_is_within => k_is)
    (case l_is_within => k_is)
    (case c_is_within => k_is)
    (case k_is_within => k_is)
    (case l_Rule_goes_ahead => k_is)
    (case c_Rule_goes_ahead => k_is)
    (case k_Rule_goes_ahead => k_is)
    (case l_Rule_choose => k_is)
    (case c_Rule_choose => k_is)
    (case k_Rule_choose => k_is)
    (case l_Fewest_goes_ahead => k_is)
    (case c_Fewest_goes_ahead => k_is)
    (case k_Fewest_goes_ahead => k_is)
    (case l_Window_init => k_is)
    (case c_Window_init => k_is)
    (case k_Window_init => k_is)
    (case l_Window_choose => k_is)
    (case c_Window_choose => k_is)
    (case k_Window_choose => k_is)
    (case a__law_cell_at => k_is)
    (case l__law_cell_at => k_is)
    (case c__law_cell_at => k_is)
    (case k__law_cell_at => k_is)
    (case a__law_whole => k_is)
    (case l__law_whole => k_is)
    (case c__law_whole => k_is)
    (case k__law_whole => k_is)
    (case a__law_now => k_is)
    (case l__law_now => k_is)
    (case c__law_now => k_is)
    (case k__law_now => k_is)
    (case a__law_tallies => k_is)
    (case l__law_tallies => k_is)
    (case c__law_tallies => k_is)
    (case k__law_tallies => k_is)
    (case a__law_due => k_is)
    (case l__law_due => k_is)
    (case c__law_due => k_is)
    (case k__law_due => k_is)
    (case a__law_refused => k_is)
    (case l__law_refused => k_is)
    (case c__law_refused => k_is)
    (case k__law_refused => k_is)
    (case a_law => k_is)
    (case l_law => k_is)
    (case c_law => k_is)
    (case k_law => k_is)
    (case pg_Rule => k_is)
    (case hd_Rule => k_is)
    (case po_Rule => k_is)
    (case sa_Rule => k_is)
    (case mi_Rule => k_is)
    (case kc_Rule => k_is)
    (case oi_Rule => k_is)
    (case fn_Rule_goes_ahead => k_is)
    (case fn_Rule_choose => k_is)
    (case pg_Fewest => k_is)
    (case hd_Fewest => k_is)
    (case po_Fewest => k_is)
    (case sa_Fewest => k_is)
    (case mi_Fewest => k_is)
    (case kc_Fewest => k_is)
    (case oi_Fewest => k_is)
    (case fn_Fewest_goes_ahead => k_is)
    (case fn_Fewest_choose => k_is)
    (case pg_Window => k_is)
    (case hd_Window => k_is)
    (case po_Window => k_is)
    (case sa_Window => k_is)
    (case na_Window_many => k_is)
    (case fn_Window_goes_ahead => k_is)
    (case fn_Window_choose => k_is)
    (case fn_Window_init => k_is)
    (case mi_Window => k_is)
    (case kc_Window => k_is)
    (case xq_WornError => k_exc)
    (case xk_WornError => k_is)
    (case xr_WornError => k_is)
    (case xt_WornError => k_is)
    (case xq_NoRule => k_exc)
    (case xk_NoRule => k_is)
    (case xr_NoRule => k_is)
    (case xt_NoRule => k_is)
    (case xq_NoRow => k_exc)
    (case xk_NoRow => k_is)
    (case xr_NoRow => k_is)
    (case xt_NoRow => k_is)
    (case em_NoRule_WornError => kernel_rfl)
    (case eg_NoRule => k_is)
    (case ek_NoRule => k_is)
    (case es_NoRule => k_is)
    (case ed_NoRule => k_is)
    (case ea_NoRule => k_is)
    (case en_NoRule => k_is)
    (case et_NoRule => k_is)
    (case eo_NoRule => k_is)
    (case ki_NoRule_ValueError => kernel_rfl)
    (case kd_NoRule_NoRule => kernel_rfl)
    (case kd_NoRule_NoRow => kernel_rfl)
    (case z_len => k_is)
    (case z_isinstance => k_is)
    (case z_min => k_is)
    (case z_sorted => k_is)
    (case z_int => k_is)
    (case z_list => k_is)
    (case z_bool => k_is)
    (case z_range => k_is)
    (case z_ValueError => k_is)
#print axioms PySem.Challenge.cw_wornpages_k27_window_holds
