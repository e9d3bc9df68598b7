import PyProof.Rows.All
import Wide.All
import OpenK.AllK
import Wide.FinOn
import HandS.ForMost
import HandS.ForExc
import HandS.Flow
import HandS.Wide
import HandS.WideBits
import HandS.IsInst
import HandS.ExcInit
import HandS.ExcField
import HandS.ExcIs
import HandS.TryMany
import HandS.SetKeys
import HandS.More
import HandS.Deep
import HandS.TupSets
import HandS.SortRule
import HandS.SortInts
import HandS.Walk
import HandS.RevTup
import HandS.Rev
import HandS.Conv
import HandS.WordsDict
import HandS.Style
import HandS.HeadHook2
import HandS.DictTup
import HandS.SortKw
import KE.DataMinMax
import HandS.HotCalls
import HandS.SuiteRaise
import HandS.SetFor
import HandS.Strs
import HandS.ExcValue
import HandS.Head0
import HandS.Head1
import HandS.Head2
import HandS.HeadEnd
import HandS.HeadHook1
import HandS.Lambda
import HandS.EndTab
import PySem.Challenge.RW_wornpages_k66_planted_faults
set_option Elab.async false
set_option linter.all false
set_option maxRecDepth 100000
set_option maxHeartbeats 4000000
/-! Kit: unified operators, method calls by the receiver's class, and step lemmas for readings. -/
namespace Kit
open PySem PySem.Spec PyProof.Rows L2
section
variable {X : Cx}
/-! ### unified operators -/
abbrev rStrAdd : R2 := fun x y H Q => ∃ i j, x = .str i ∧ y = .str j ∧ i.length + j.length ≤ sizeLine ∧ Q (.str (i ++ j)) H
def uAdd (K : PySem.W.Frag) : R2 := fun x y H Q => rI0 (fun i j => .int (i + j)) x y H Q ∨ (rStrAdd x y H Q ∨ (rCat x y H Q ∨ rCatT K x y H Q))
theorem op_uAdd : OpR X (binaryOp .Add) (uAdd X.K) := op_add.or (op_add_str.or (op_cat.or op_catT))
def uMul : R2 := fun x y H Q => rI CMul (fun i j => .int (i * j)) x y H Q ∨ (rRep x y H Q ∨ rI CMulW (fun i j => .int (i * j)) x y H Q)
theorem op_uMul : OpR X (binaryOp .Mult) uMul := op_mul.or (op_rep.or op_mulW)
def uShl : R2 := rI CShl fun i j => .int (i * 2 ^ j.toNat)
theorem op_uShl : OpR X (binaryOp .LShift) uShl := op_shlW
def uEq (K : PySem.W.Frag) : R2 := fun x y H Q => rEq x y H Q ∨ rEqD K x y H Q
theorem op_uEq (hu : X.A.units + 64 < cLine) : OpR X (compareOp .Eq) (uEq X.K) := op_eq.or (op_eqD hu)
def uNe (K : PySem.W.Frag) : R2 := fun x y H Q => rNe x y H Q ∨ rNeD K x y H Q
theorem op_uNe (hu : X.A.units + 64 < cLine) : OpR X (compareOp .NotEq) (uNe X.K) := op_ne.or (op_neD hu)
abbrev rLtI : R2 := rI0 fun i j => .bl (decide (i < j))
def uLt : R2 := rLtI
theorem op_uLt : OpR X (compareOp .Lt) uLt := op_lt
def uIn (K : PySem.W.Frag) : R2 := rIn K false
def uNotIn (K : PySem.W.Frag) : R2 := rIn K true
theorem op_uNotIn : OpR X (compareOp .NotIn) (uNotIn X.K) := op_notIn_seq
abbrev rIsNon : R2 := fun x y H Q => y = .non ∧ Q (.bl (decide (x = .non))) H
abbrev rIsNotNon : R2 := fun x y H Q => y = .non ∧ Q (.bl (!decide (x = .non))) H
def uIs : R2 := fun x y H Q => rIsNon x y H Q ∨ rIsB x y H Q
theorem op_uIs : OpR X (compareOp .Is) uIs := op_isN.or op_isBl
def uIsNot : R2 := fun x y H Q => rIsNotNon x y H Q ∨ rNotB x y H Q
theorem op_uIsNot : OpR X (compareOp .IsNot) uIsNot := op_notN.or op_notBl
/-! ### calls -/
/-- a method of a class, by what it promises -/
structure MO (P : Program) (w : World) (K : PySem.W.Frag) (mg : Str → Option Value) (base : Heap) (CX : CXT) (n : Nat) (C : Addr) (m : Str) (sp : Sp) : Prop where
  ex : ∃ f fd ps, Cls K C ∧ Meth K C m f ∧ FnOk P w K mg base CX n f fd ps sp ∧ Binds K fd ps []
variable {CX : CXT} {k : Nat} {f C : Addr} {fd : FuncData} {ps : List Str} {sp : Sp} {dvs : List V} {ds : List Value} {E : L2.St → XK} {x m : Str} {p pos apos : Pos} {e o : Expr} {es : List Expr} {ta : TE} {t : TA}
/-- o.m(..), by the class that o has -/
def mtK (P : Program) (w : World) (K : PySem.W.Frag) (mg : Str → Option Value) (base : Heap) (CX : CXT) (n : Nat) (m : Str) (E : XK) (σ : L2.St) (t : TA) (Q : VK) : V → Hp → Prop := fun x H1 => ∃ a C dx fs sp, x = .ref a ∧ H1 a = some (.ins C dx fs) ∧ fs.lookup m = none ∧
  MO P w K mg base CX n C m sp ∧ t σ H1 fun vs H2 => sp (x :: vs) H2 Q E
def tMethD (P : Program) (w : World) (K : PySem.W.Frag) (mg : Str → Option Value) (base : Heap) (CX : CXT) (n : Nat) (m : Str) (E : L2.St → XK) (ta : TE) (t : TA) : TE := fun σ H Q => ta σ H (mtK P w K mg base CX n m (E σ) σ t Q)
theorem pe_methD {pl : Sem Bool} (he : PE X o ta) (hr : Room k X.A) (hx : ∀ σ, PassesAt CX X σ (E σ)) (ha : PA X (e :: es) t)
    (hst : starEach (e :: es) X.env = (false, eval e X.env) :: starEach es X.env := by rfl) (hpl : (backTo pos (starEach es X.env)).any (·.1) = false := by rfl)
    (ht : eval (.Call (.Attribute o m apos) (e :: es) [] pos) X.env = (do
      let ov ← eval o X.env
      standAt apos.atName
      let (f, first) ← holding [ov] (getMethod ov m pl)
      callWith pos f first (backTo pos (starEach (e :: es) X.env)) (backToKw pos (keywordEach [] X.env))) := by rfl) :
    PE X (.Call (.Attribute o m apos) (e :: es) [] pos) (tMethD X.prog X.w X.K X.mg X.base CX k m E ta t) := by
  refine ⟨fun pins s σ H Q I h => ?_⟩
  refine PySem.W.methodCall_KW (pl := pl) (thn (he.run pins s σ H _ I h) fun u s1 ⟨x, H1, I1, rx, a, C, dx, fs, sp, ex, ea, l, mo, q⟩ => ?_) ht
  subst ex
  obtain rfl : u = Value.ref a := rx
  obtain ⟨f, fd, ps, c, hm, F, hb⟩ := mo.ex
  refine getmeth_ok I1 ea c hm l ?_
  refine PySem.W.callWith_K (first := [.ref a]) (h₀ := X.base) I.ok.mod.kin hm.kp (thn (ha.run pos pins s1 σ H1 _ I1 q) fun us s2 ⟨vs, H2, I2, r, q2⟩ => ⟨I2.kIn, ?_⟩) hst hpl
  exact run_fnS (us := .ref a :: us) (vs := .ref a :: vs) F hr hb (hx σ) I2 (.cons rfl r) q2
theorem pe_methD0 {pl : Sem Bool} (he : PE X o ta) (hr : Room k X.A) (hx : ∀ σ, PassesAt CX X σ (E σ))
    (ht : eval (.Call (.Attribute o m apos) [] [] pos) X.env = (do
      let ov ← eval o X.env
      standAt apos.atName
      let (f, first) ← holding [ov] (getMethod ov m pl)
      callWith pos f first (backTo pos (starEach [] X.env)) (backToKw pos (keywordEach [] X.env))) := by rfl) :
    PE X (.Call (.Attribute o m apos) [] [] pos) (tMethD X.prog X.w X.K X.mg X.base CX k m E ta tNil) := by
  refine ⟨fun pins s σ H Q I h => ?_⟩
  refine PySem.W.methodCall_KW (pl := pl) (thn (he.run pins s σ H _ I h) fun u s1 ⟨x, H1, I1, rx, a, C, dx, fs, sp, ex, ea, l, mo, q⟩ => ?_) ht
  subst ex
  obtain rfl : u = Value.ref a := rx
  obtain ⟨f, fd, ps, c, hm, F, hb⟩ := mo.ex
  refine getmeth_ok I1 ea c hm l ?_
  exact PySem.W.callWith_K0 (first := [.ref a]) I1.kIn hm.kp (run_fnS (us := [.ref a]) (vs := [.ref a]) F hr hb (hx σ) I1 (.cons rfl .nil) q)
/-- C(..), what is raised at the slots -/
def tMakeS (C : Addr) (sp : Sp) (dvs : List V) (E : L2.St → XK) (t : TA) : TE := fun σ H Q => t σ H fun vs H1 => ∀ x dx, H1 x = none → H1 dx = none → dx ≠ x →
  sp (.ref x :: (vs ++ dvs)) (upd (upd H1 dx (.own x)) x (.ins C dx [])) (fun v H2 => v = .non ∧ Q (.ref x) H2) (E σ)
end
section
variable {X : Cx} {CX : CXT} {k : Nat} {f C : Addr} {fd : FuncData} {ps : List Str} {sp : Sp} {dvs : List V} {ds : List Value} {E : L2.St → XK} {x : Str} {p pos : Pos} {e : Expr} {es : List Expr} {t : TA}
def tMake0 (C : Addr) : TE := fun _ H Q => ∀ x dx, H x = none → H dx = none → dx ≠ x → Q (.ref x) (upd (upd H dx (.own x)) x (.ins C dx []))
theorem run_makeS {pins : List (Addr × Obj)} {σ : L2.St} {H : Hp} {s : Shared} {Q : VK} {us : List Value} {vs : List V} (M : Mk X.K C f) (F : FnOk X.prog X.w X.K X.mg X.base CX k f fd ps sp) (hr : Room (k + 1) X.A) (hb : Binds X.K fd ps ds) (hd : Vals dvs ds)
    (hx : ∀ σ, PassesAt CX X σ (E σ)) (I : Inv X pins σ H s) (r : Vals vs us)
    (h : ∀ x dx, H x = none → H dx = none → dx ≠ x → sp (.ref x :: (vs ++ dvs)) (upd (upd H dx (.own x)) x (.ins C dx [])) (fun v H2 => v = .non ∧ Q (.ref x) H2) (E σ)) :
    wpAny (model X.prog X.w) X.A (call (.ref C) us) (EP X pins σ Q) X.xe s := by
  have hq := h (s.heap.objs.size + 1) s.heap.objs.size (I.hok.fresh (Nat.le_succ _)) (I.hok.fresh (Nat.le_refl _)) (Nat.ne_of_lt (Nat.lt_succ_self _))
  have I2 := Inv.made (C := C) I
  have r2 : Vals (V.ref (s.heap.objs.size + 1) :: (vs ++ dvs)) (Value.ref (s.heap.objs.size + 1) :: (us ++ ds)) := .cons rfl (r.append hd)
  have hl : (Value.ref (s.heap.objs.size + 1) :: us ++ ds).length = ps.length := by
    have e := r2.length
    rw [F.len _ _ _ _ hq] at e
    exact e.symm
  refine wpAny_call (make_map (f := f) I.kIn M.makes M.init (beq_iff_eq.mp M.fn) (codeAny_mono (F.run _ X.stack _ _ ⟨Value.ref (s.heap.objs.size + 1) :: us, []⟩ (Value.ref (s.heap.objs.size + 1) :: (us ++ ds)) _ _ (E σ) (hr.make C us [])
    (I2.env0.make C us []) (hb _ (Value.ref (s.heap.objs.size + 1) :: us) I2.kIn hl) r2 hq) fun r s' hq' => ?_))
  cases r with
  | error e => exact hx σ pins _ _ e s' I2 hq'
  | ok fl =>
    cases fl with
    | ret u =>
      obtain ⟨v, H', I3, rv, ev, q3⟩ := I2.after hq'
      subst ev
      exact ⟨rv, ⟨V.ref (s.heap.objs.size + 1), H', I3, rfl, q3⟩⟩
    | next => exact False.elim hq'
    | brk => exact False.elim hq'
    | cont => exact False.elim hq'
theorem pe_mkS (M : Mk X.K C f) (F : FnOk X.prog X.w X.K X.mg X.base CX k f fd ps sp) (hr : Room (k + 1) X.A) (hg : Gl X x) (hm : X.mg x = some (.ref C)) (hb : Binds X.K fd ps ds) (hd : Vals dvs ds) (hx : ∀ σ, PassesAt CX X σ (E σ))
    (ha : PA X (e :: es) t) (hdb : (x == ("__debug__" : Str)) = false := by decide) (he : starEach (e :: es) X.env = (false, eval e X.env) :: starEach es X.env := by rfl) (hpl : (backTo pos (starEach es X.env)).any (·.1) = false := by rfl) :
    PE X (.Call (.Name x p) (e :: es) [] pos) (tMakeS C sp dvs E t) := by
  refine ⟨fun pins s σ H Q I h => ?_⟩
  refine wpAny_Call_Name_kw (ld_glob I hg hm ?_ hdb)
  refine PySem.W.callWith_K (h₀ := X.base) I.ok.mod.kin M.kp (thn (ha.run pos pins s σ H _ I h) fun us s1 ⟨vs, H1, I1, r, q⟩ => ⟨I1.kIn, ?_⟩) he hpl
  exact run_makeS M F hr hb hd hx I1 r q
end
/-! ### steps: statements -/
section
variable {σ : L2.St} {H H1 : Hp} {K : PySem.W.Frag} {D : Ends} {t u : TS} {te ta tb : TE} {c : TT} {i : Nat} {v x y : V} {Q : VK} {QB : Bool → Hp → Prop} {A B : Prop} {b : Bool}
theorem x_seq (h : t { D with nx := u D } σ H) : tSeq t u D σ H := h
theorem x_seqA {g : TG} (h : tAsg te g { D with nx := u D } σ H) : tSeq (tAsg te g) u D σ H := h
theorem x_seqD (h : tDrop te { D with nx := u D } σ H) : tSeq (tDrop te) u D σ H := h
theorem x_seqF {f : Str} (h : sFld K ta te f { D with nx := u D } σ H) : tSeq (sFld K ta te f) u D σ H := h
theorem x_seqFA {f : Str} {rd : V → V → Hp → VK → Prop} (h : sFldAug K ta te rd f { D with nx := u D } σ H) : tSeq (sFldAug K ta te rd f) u D σ H := h
theorem x_seqAug {ti : TIp} (h : tAug i te ti { D with nx := u D } σ H) : tSeq (tAug i te ti) u D σ H := h
theorem x_next (q : D.nx σ H) : tNext D σ H := q
theorem x_asg {g : TG} (h : te σ H fun x H1 => g x σ H1 D.nx) : tAsg te g D σ H := h
theorem x_gname {QS : L2.St → Hp → Prop} (q : QS (σ.set i (some v)) H) : gName i v σ H QS := q
theorem x_ret (h : te σ H D.rt) : tRet te D σ H := h
theorem x_retN (h : D.rt .non H) : tRetN D σ H := h
theorem x_drop (h : te σ H fun _ H1 => D.nx σ H1) : tDrop te D σ H := h
theorem x_if (h : c σ H fun b H1 => if b = true then t D σ H1 else u D σ H1) : tIfS c t u D σ H := h
theorem x_iteT (h : A) : if true = true then A else B := iteT h
theorem x_iteF (h : B) : if false = true then A else B := iteF h
theorem x_iteD {p : Prop} [Decidable p] (h1 : p → A) (h2 : ¬ p → B) : if decide p = true then A else B := by
  by_cases h : p
  · rw [decide_eq_true h]; exact iteT (h1 h)
  · rw [decide_eq_false h]; exact iteF (h2 h)
theorem x_iteN (h : if b = true then B else A) : if (!b) = true then A else B := by
  cases b with
  | true => exact h
  | false => exact h
theorem x_iteB (h1 : b = true → A) (h2 : b = false → B) : if b = true then A else B := by
  cases b with
  | true => exact iteT (h1 rfl)
  | false => exact iteF (h2 rfl)
/-- ways that join: J holds at the end of t on every way -/
theorem x_join (J : L2.St → Hp → Prop) (h1 : ∀ R : L2.St → Hp → Prop, (∀ σ' H', J σ' H' → R σ' H') → t { D with nx := R } σ H) (h2 : ∀ σ' H', J σ' H' → u D σ' H') : tSeq t u D σ H := h1 (u D) h2
/-! ### steps: expressions -/
theorem x_var (h : σ[i]? = some (some v)) (q : Q v H) : tVar i σ H Q := ⟨v, h, q⟩
theorem x_c (q : Q v H) : tC v σ H Q := q
theorem x_op {r : R2} (h : ta σ H fun x H1 => tb σ H1 fun y H2 => r x y H2 Q) : tOp r ta tb σ H Q := h
theorem x_un {r : V → Hp → VK → Prop} (h : ta σ H fun x H1 => r x H1 Q) : tUn r ta σ H Q := h
theorem x_cb {r : List V → Hp → VK → Prop} {t : TA} (h : t σ H fun vs H1 => r vs H1 Q) : tCB r t σ H Q := h
theorem x_nil {QA : List V → Hp → Prop} (q : QA [] H) : tNil σ H QA := q
theorem x_cons {QA : List V → Hp → Prop} {tr : TA} (h : ta σ H fun x H1 => tr σ H1 fun xs H2 => QA (x :: xs) H2) : tCons ta tr σ H QA := h
theorem x_callS {sp : Sp} {E : L2.St → XK} {t : TA} (h : t σ H fun vs H1 => sp vs H1 Q (E σ)) : tCallS sp E t σ H Q := h
theorem x_ifExp (h : c σ H fun c H1 => if c = true then ta σ H1 Q else tb σ H1 Q) : tIf c ta tb σ H Q := h
theorem x_test (h : te σ H fun x H' => ∃ k, x = .bl k ∧ QB k H') : tTest te σ H QB := h
theorem x_tB (h : te σ H fun x H' => ∃ k, x = .bl k ∧ QB k H') : tB te σ H QB := h
theorem x_and {t u : TT} (h : t σ H fun c H1 => if c = true then u σ H1 QB else QB false H1) : tAnd t u σ H QB := h
theorem x_or {t u : TT} (h : t σ H fun c H1 => if c = true then QB true H1 else u σ H1 QB) : tOr t u σ H QB := h
theorem x_not {t : TT} (h : t σ H fun c H1 => QB (!c) H1) : tNot t σ H QB := h
theorem x_andT (h : ta σ H fun x H1 => ∃ k, TruV K x H1 k ∧ if k = true then tb σ H1 Q else Q x H1) : tAndT K ta tb σ H Q := h
theorem x_orT (h : ta σ H fun x H1 => ∃ k, TruV K x H1 k ∧ if k = true then Q x H1 else tb σ H1 Q) : tOrT K ta tb σ H Q := h
theorem x_notT (h : ta σ H fun x H1 => ∃ k, TruV K x H1 k ∧ Q (.bl (!k)) H1) : tNotT K ta σ H Q := h
theorem x_truBl {P : Bool → Prop} (h : P b) : ∃ k, TruV K (.bl b) H k ∧ P k := ⟨b, rfl, h⟩
theorem x_isbl {P : Bool → Prop} (h : P b) : ∃ k, V.bl b = .bl k ∧ P k := ⟨b, rfl, h⟩
theorem x_chain {r r' : R2} {tc : TE} (h : ta σ H fun x H1 => tb σ H1 fun y H2 => r x y H2 fun z H3 => ∃ k, z = .bl k ∧ if k = true then tc σ H3 fun z' H4 => r' y z' H4 Q else Q (.bl false) H3) : tChain r r' ta tb tc σ H Q := h
/-! ### steps: operators on values -/
variable {m n : Int} {s1 s2 : Str}
theorem x_addI (q : Q (.int (m + n)) H) : uAdd K (.int m) (.int n) H Q := .inl ⟨m, n, rfl, rfl, q⟩
theorem x_addS (q : Q (.str (s1 ++ s2)) H) (h : s1.length + s2.length ≤ sizeLine) : uAdd K (.str s1) (.str s2) H Q := .inr (.inl ⟨s1, s2, rfl, rfl, h, q⟩)
theorem x_I0 {g : Int → Int → V} (q : Q (g m n) H) : rI0 g (.int m) (.int n) H Q := ⟨m, n, rfl, rfl, q⟩
theorem x_I {C : Int → Int → Prop} {g : Int → Int → V} (q : Q (g m n) H) (h : C m n) : rI C g (.int m) (.int n) H Q := ⟨m, n, rfl, rfl, h, q⟩
theorem x_pow {g : Int → Int → V} (q : Q (g m n) H) (h : CPow m n) : rI CPow g (.int m) (.int n) H Q := ⟨m, n, rfl, rfl, h, q⟩
theorem x_lt (q : Q (.bl (decide (m < n))) H) : uLt (.int m) (.int n) H Q := ⟨m, n, rfl, rfl, q⟩
theorem x_mulI (q : Q (.int (m * n)) H) (h : CMul m n) : uMul (.int m) (.int n) H Q := .inl ⟨m, n, rfl, rfl, h, q⟩
theorem x_mulU (q : Q (.int (m * n)) H) (h : m.natAbs < 2 ^ 250 ∧ n.natAbs < 2 ^ 250) : uMul (.int m) (.int n) H Q := .inr (.inr ⟨m, n, rfl, rfl, wide_mul h.1 h.2 (by decide) (by decide) (by decide), q⟩)
theorem same_upd {o : HO} {p : Addr} (h : H p = none) : Same H (upd H p o) := fun b u e => by rw [upd_ne (ne_of_none e h)]; exact e
theorem cutV_from {xs : List V} (k : Nat) : cutV xs (some (k : Int)) none = xs.drop k := by
  unfold cutV
  rw [HT.sIx_nat, HT.sIx_none]
  by_cases h : k ≤ xs.length
  · rw [Nat.min_eq_left h, List.take_of_length_le (by rw [List.length_drop]; exact Nat.le_refl _)]
  · rw [Nat.min_eq_right (by omega), List.drop_of_length_le (Nat.le_refl _), List.drop_of_length_le (by omega), List.take_nil]
theorem cutV_to {xs : List V} (k : Nat) : cutV xs none (some (k : Int)) = xs.take k := by
  unfold cutV
  rw [HT.sIx_nat, HT.sIx_none, List.drop_zero, Nat.sub_zero]
  by_cases h : k ≤ xs.length
  · rw [Nat.min_eq_left h]
  · rw [Nat.min_eq_right (by omega), List.take_of_length_le (Nat.le_refl _), List.take_of_length_le (by omega)]
/-- a new object: what is asked of it -/
abbrev New (H : Hp) (Q : VK) (o : HO) : Prop := ∀ p H1, H p = none → Same H H1 → H1 p = some o → Q (.ref p) H1
theorem New.mk {o : HO} (h : New H Q o) : ∀ p, H p = none → Q (.ref p) (upd H p o) := fun p hp => h p _ hp (same_upd hp) upd_same
def nwL (Q : VK) : List V → Hp → Prop := fun xs H1 => xs.length ≤ sizeLine ∧ ∀ p, H1 p = none → Q (.ref p) (upd H1 p (.lst xs))
def nwT (Q : VK) : List V → Hp → Prop := fun xs H1 => xs.length ≤ sizeLine ∧ ∀ p, H1 p = none → Q (.ref p) (upd H1 p (.tup xs))
theorem x_nwL {xs : List V} (h : New H Q (.lst xs)) (hl : xs.length ≤ sizeLine) : nwL Q xs H := ⟨hl, h.mk⟩
theorem x_nwT {xs : List V} (h : New H Q (.tup xs)) (hl : xs.length ≤ sizeLine) : nwT Q xs H := ⟨hl, h.mk⟩
theorem x_addL {l l' : Addr} {xs ys : List V} (h1 : H l = some (.lst xs)) (h2 : H l' = some (.lst ys)) (q : New H Q (.lst (xs ++ ys))) (hl : xs.length + ys.length ≤ sizeLine) : uAdd K (.ref l) (.ref l') H Q :=
  .inr (.inr (.inl ⟨l, l', xs, ys, rfl, rfl, h1, h2, hl, q.mk⟩))
theorem x_rep {l : Addr} {xs : List V} (h1 : H l = some (.lst xs)) (q : New H Q (.lst (List.replicate n.toNat xs).flatten)) (h2 : n < 2 ^ 63) (h0 : 0 ≤ n) (hl : xs.length * n.toNat ≤ sizeLine) : uMul (.ref l) (.int n) H Q :=
  .inr (.inl ⟨l, n, xs, rfl, rfl, h1, Int.le_trans (by decide) h0, h2, hl, q.mk⟩)
theorem flat_rep {v : V} : ∀ n : Nat, (List.replicate n [v]).flatten = List.replicate n v
  | 0 => rfl
  | n + 1 => by rw [List.replicate_succ, List.flatten_cons, flat_rep n]; rfl
/-- [v] * n -/
theorem x_rep1 {l : Addr} {v : V} (h1 : H l = some (.lst [v])) (q : New H Q (.lst (List.replicate n.toNat v))) (h : 0 ≤ n ∧ n ≤ 1000000) : uMul (.ref l) (.int n) H Q :=
  x_rep h1 (by rw [flat_rep]; exact q) (by omega) h.1 (by rw [List.length_singleton, Nat.one_mul]; exact Nat.le_trans (show n.toNat ≤ 1000000 by omega) (by decide))
theorem cdivW {i j : Int} (h : 0 < j) (h2 : j < 10 ^ 60) : CDivW i j := by
  refine wide_div (b := 200) h ?_ (by decide) (by decide)
  have : (2:Nat) ^ 200 = 1606938044258990275541962092341162602522202993782792835301376 := by decide
  omega
theorem x_shl (q : Q (.int (m * 2 ^ n.toNat)) H) (h : CShl m n) : uShl (.int m) (.int n) H Q := ⟨m, n, rfl, rfl, h, q⟩
theorem x_U {g : Int → V} (q : Q (g m) H) : rU g (.int m) H Q := ⟨m, rfl, q⟩
theorem x_eqI (q : Q (.bl (decide (m = n))) H) : uEq K (.int m) (.int n) H Q := .inl ⟨rfl, by rw [dec_int, ← Bool.beq_eq_decide_eq] at *; exact q⟩
theorem x_neI (q : Q (.bl (!decide (m = n))) H) : uNe K (.int m) (.int n) H Q := .inl ⟨rfl, by rw [dec_int, ← Bool.beq_eq_decide_eq] at *; exact q⟩
theorem x_eqB {b c : Bool} (q : Q (.bl (decide (b = c))) H) : uEq K (.bl b) (.bl c) H Q := .inl ⟨rfl, by rw [dec_bl, ← Bool.beq_eq_decide_eq] at *; exact q⟩
theorem x_neB {b c : Bool} (q : Q (.bl (!decide (b = c))) H) : uNe K (.bl b) (.bl c) H Q := .inl ⟨rfl, by rw [dec_bl, ← Bool.beq_eq_decide_eq] at *; exact q⟩
theorem x_eqS (q : Q (.bl (decide (s1 = s2))) H) : uEq K (.str s1) (.str s2) H Q := .inl ⟨rfl, by rw [dec_str] at *; rw [show decide (s1 = s2) = (s1 == s2) from by rw [Bool.beq_eq_decide_eq]] at q; exact q⟩
theorem x_tup {t : TA} (h : t σ H (nwT Q)) : tTup t σ H Q := h
theorem x_lst {t : TA} (h : t σ H (nwL Q)) : tLst t σ H Q := h
/-! ### steps: sequences -/
variable {p : Addr} {xs : List V} {ns : List Int}
theorem atI_getD {α : Type} {xs : List α} {i : Int} (d : α) (h0 : 0 ≤ i) (h1 : i < xs.length) : atI xs i = some (xs.getD i.toNat d) := by
  obtain ⟨j, rfl⟩ : ∃ j : Nat, i = (j : Int) := ⟨i.toNat, by omega⟩
  have hj : j < xs.length := by omega
  exact atI_nat (by simp [hj])
theorem x_ixI (h : SqL K H p (ns.map V.int)) (q : Q (.int (ns.getD n.toNat 0)) H) (h0 : 0 ≤ n) (h1 : n < ns.length) : rIx K (.ref p) (.int n) H Q :=
  .inl ⟨p, _, n, _, rfl, rfl, h, by
    rw [atI_getD (.int 0) h0 (by rw [List.length_map]; exact h1)]
    have hn : n.toNat < ns.length := by omega
    simp [hn], q⟩
theorem x_ixS (h : SqL K H p xs) (ha : atI xs n = some v) (q : Q v H) : rIx K (.ref p) (.int n) H Q := .inl ⟨p, _, n, _, rfl, rfl, h, ha, q⟩
theorem atI_0 {α : Type} {x : α} {xs : List α} : atI (x :: xs) 0 = some x := atI_nat (j := 0) (by simp)
theorem x_ixH (h : SqL K H p (v :: xs)) (q : Q v H) : rIx K (.ref p) (.int 0) H Q := .inl ⟨p, _, 0, _, rfl, rfl, h, atI_0, q⟩
theorem x_ixL (h : SqL K H p xs) (q : Q (xs.getD n.toNat .non) H) (h0 : 0 ≤ n) (h1 : n < xs.length) : rIx K (.ref p) (.int n) H Q :=
  .inl ⟨p, _, n, _, rfl, rfl, h, atI_getD _ h0 h1, q⟩
theorem x_ixT (h : SqT K H p xs) (ha : atI xs n = some v) (q : Q v H) : rIx K (.ref p) (.int n) H Q :=
  .inr (.inl ⟨p, _, n, _, rfl, rfl, h, ha, q⟩)
end
/-! ### data -/
section
variable {X : Cx} {σ : L2.St} {H H' : Hp} {K : PySem.W.Frag} {Q : VK} {x y : V}
theorem cl_all : ∀ ds : List PyData, PyData.canLayAll0 ds = true ↔ ∀ d ∈ ds, PyData.canLay0 d = true
  | [] => by simp [PyData.canLayAll0]
  | d :: ds => by rw [PyData.canLayAll0, Bool.and_eq_true, cl_all ds]; simp
theorem dp_all {k : Nat} : ∀ ds : List PyData, PyData.depthAll ds ≤ k ↔ ∀ d ∈ ds, PyData.depth d ≤ k
  | [] => by simp [PyData.depthAll]
  | d :: ds => by rw [PyData.depthAll, Nat.max_le, dp_all ds]; simp
/-- data of a depth that can be compared -/
def Sh (k : Nat) (d : PyData) : Prop := d.canLay0 = true ∧ d.depth ≤ k
theorem Sh.list {k : Nat} {ds : List PyData} (h : ∀ d ∈ ds, Sh k d) : Sh (k + 1) (.list ds) := ⟨by rw [PyData.canLay0]; exact (cl_all ds).mpr fun d m => (h d m).1, by rw [PyData.depth]; exact Nat.succ_le_succ ((dp_all ds).mpr fun d m => (h d m).2)⟩
theorem Sh.tup {k : Nat} {ds : List PyData} (h : ∀ d ∈ ds, Sh k d) : Sh (k + 1) (.tuple ds) := ⟨by rw [PyData.canLay0]; exact (cl_all ds).mpr fun d m => (h d m).1, by rw [PyData.depth]; exact Nat.succ_le_succ ((dp_all ds).mpr fun d m => (h d m).2)⟩
theorem Sh.int {k : Nat} {n : Int} : Sh k (.int n) := ⟨by simp [PyData.canLay0], by simp [PyData.depth]⟩
theorem Sh.non {k : Nat} : Sh k .none := ⟨by simp [PyData.canLay0], by simp [PyData.depth]⟩
theorem Sh.bl {k : Nat} {b : Bool} : Sh k (.bool b) := ⟨by simp [PyData.canLay0], by simp [PyData.depth]⟩
theorem Sh.str {k : Nat} {s : Str} (h : PyData.strOk s = true) : Sh k (.str s) := ⟨by rw [PyData.canLay0]; exact h, by simp [PyData.depth]⟩
theorem Sh.shaped {k : Nat} {d : PyData} (h : Sh k d) (hk : k ≤ 64) : SeqAt.shaped d = true := by
  unfold SeqAt.shaped
  rw [h.1, decide_eq_true (Nat.le_trans h.2 hk)]
  rfl
theorem Sh.refl {k : Nat} {d : PyData} (h : Sh k d) : PyData.eqv d d = true := SeqAt.eqv_refl d h.1
theorem x_eqD {d e : PyData} (h1 : Dp K H x d) (h2 : Dp K H y e) (s1 : Sh 9 d) (s2 : Sh 9 e) (q : Q (.bl (PyData.eqv d e)) H) : uEq K x y H Q := .inr ⟨d, e, h1, h2, s1.shaped (by decide), s2.shaped (by decide), q⟩
theorem x_neD {d e : PyData} (h1 : Dp K H x d) (h2 : Dp K H y e) (s1 : Sh 9 d) (s2 : Sh 9 e) (q : Q (.bl (!PyData.eqv d e)) H) : uNe K x y H Q := .inr ⟨d, e, h1, h2, s1.shaped (by decide), s2.shaped (by decide), q⟩
/-- the same data -/
theorem x_eqS2 {d : PyData} (h1 : Dp K H x d) (h2 : Dp K H y d) (s1 : Sh 9 d) (q : Q (.bl true) H) : uEq K x y H Q := x_eqD h1 h2 s1 s1 (by rw [s1.refl]; exact q)
theorem x_neS2 {d : PyData} (h1 : Dp K H x d) (h2 : Dp K H y d) (s1 : Sh 9 d) (q : Q (.bl false) H) : uNe K x y H Q := x_neD h1 h2 s1 s1 (by rw [s1.refl]; exact q)
theorem dpAll_of : ∀ {vs : List V} {ds : List PyData}, vs.length = ds.length → (∀ (i : Nat) v d, vs[i]? = some v → ds[i]? = some d → Dp K H v d) → DpAll K H vs ds
  | [], [], _, _ => .nil
  | v :: vs, d :: ds, hl, h => .cons (h 0 v d rfl rfl) (dpAll_of (by simpa using hl) fun i a b h1 h2 => h (i + 1) a b h1 h2)
end
/-! ### loops -/
section
variable {X : Cx} {σ : L2.St} {H : Hp} {K : PySem.W.Frag} {D : Ends} {g : TG} {tb : TS} {tl te : TE} {tt : TT} {ta : TA} {a : Addr} {xs : List V} {Q : VK} {vs : List Nat}
theorem sl_u : SlR X (rSlL X.K) := sl_list
theorem x_slice {to th : TO} {r : V → Option Int → Option Int → Hp → VK → Prop} (h : te σ H fun x H1 => to σ H1 fun l H2 => th σ H2 fun u H3 => r x l u H3 Q) : tSl r te to th σ H Q := h
theorem x_noPart {QO : Option Int → Hp → Prop} (q : QO none H) : tNoPart σ H QO := q
def ptK (QO : Option Int → Hp → Prop) : V → Hp → Prop := fun x H1 => ∃ i, x = .int i ∧ QO (some i) H1
theorem x_part {QO : Option Int → Hp → Prop} (h : te σ H (ptK QO)) : tPart te σ H QO := h
theorem x_ptK {QO : Option Int → Hp → Prop} {i : Int} (q : QO (some i) H) : ptK QO (.int i) H := ⟨i, rfl, q⟩
theorem x_slL {lo hi : Option Int} (h : SqL K H a xs) (q : New H Q (.lst (cutV xs lo hi))) : rSlL K (.ref a) lo hi H Q := ⟨a, xs, rfl, h, q.mk⟩
def loopK (J : It) (g : TG) (tb : TS) (D : Ends) (σ : L2.St) (H1 : Hp) : Prop := ∃ W : Nat → Nat → L2.St → Hp → Prop, (∃ m, W 0 m σ H1) ∧ ∀ i m σ H, W i m σ H →
  (J.stop i H ∧ D.nx σ H) ∨ (J.go i H ∧ ∃ N : L2.St → Hp → Prop, (∀ σ' H', N σ' H' → ∃ m', m' < m ∧ W (i + 1) m' σ' H') ∧ ∀ x H', J.yld i H x H' → g x σ H' fun σ2 H2 => tb { D with nx := N, ct := N, bk := D.nx } σ2 H2)
def frL (K : PySem.W.Frag) (g : TG) (tb : TS) (D : Ends) (σ : L2.St) : V → Hp → Prop := fun x H1 => ∃ a, x = .ref a ∧ (∃ xs, SqL K H1 a xs) ∧ loopK (Itl K a) g tb D σ H1
theorem x_forL (h : tl σ H (frL K g tb D σ)) : tFor (iList K tl) g tb D σ H := h
theorem x_frL (hq : SqL K H a xs) (Pv : Nat → L2.St → Hp → Prop) (h0 : Pv 0 σ H) (hl : ∀ i σ H, i ≤ xs.length → Pv i σ H → SqL K H a xs)
    (hs : ∀ i x σ H, xs[i]? = some x → Pv i σ H → g x σ H fun σ2 H2 => tb { D with nx := Pv (i + 1), ct := Pv (i + 1), bk := D.nx } σ2 H2) (hd : ∀ σ H, Pv xs.length σ H → D.nx σ H) : frL K g tb D σ (.ref a) H :=
  ⟨a, rfl, ⟨_, hq⟩, for_list Pv h0 hl hs hd⟩
def frT (K : PySem.W.Frag) (g : TG) (tb : TS) (D : Ends) (σ : L2.St) : V → Hp → Prop := fun x H1 => ∃ a, x = .ref a ∧ (∃ xs, SqT K H1 a xs) ∧ loopK (Itt K a) g tb D σ H1
theorem x_forT (h : tl σ H (frT K g tb D σ)) : tFor (iTup K tl) g tb D σ H := h
/-! a loop over a list or a tuple -/
def iSeq (K : PySem.W.Frag) (tl : TE) : TI := fun σ H R => tl σ H fun x H1 => ∃ a, x = .ref a ∧ (((∃ xs, SqL K H1 a xs) ∧ R (Itl K a) H1) ∨ ((∃ xs, SqT K H1 a xs) ∧ R (Itt K a) H1))
theorem pi_seq {X : Cx} {tg l : Expr} {tl : TE} (hl : PE X l tl) : PI X tg l (iSeq X.K tl) := by
  refine ⟨fun pins s σ H R I h => thn (hl.run pins s σ H _ I h) fun v s1 ⟨x, H1, I1, r1, a, e, q⟩ => ?_⟩
  subst e; cases r1
  have fp : ∀ b ∈ [s1.heap.objs.size], _ := fun b hb => (List.mem_singleton.mp hb) ▸ I1.fpOk (Nat.le_refl _) (I1.hok.fresh (Nat.le_refl _))
  rcases q with ⟨⟨xs, hq⟩, q⟩ | ⟨⟨xs, hq⟩, q⟩
  · obtain ⟨its, rv, p, hz⟩ := I1.list hq
    exact wpAny_pyIter_list p.isList ⟨s1.heap.objs.size, [s1.heap.objs.size], _, _, H1, rfl, I1.kept (t' := s1.toks) fun b o e => Heap.get?_push_of_some _ e, turn_list a _, ⟨_, Heap.get?_push_size _ rfl, rfl, rfl⟩, fp, q⟩
  · obtain ⟨its, rv, p, hz⟩ := I1.tuple hq
    exact wpAny_pyIter_tuple (show s1.heap.IsTuple a its.toArray from p) ⟨s1.heap.objs.size, [s1.heap.objs.size], _, _, H1, rfl, I1.kept (t' := s1.toks) fun b o e => Heap.get?_push_of_some _ e, turn_tuple a _, ⟨_, Heap.get?_push_size _ rfl, rfl, rfl⟩, fp, q⟩
def frS (K : PySem.W.Frag) (g : TG) (tb : TS) (D : Ends) (σ : L2.St) : V → Hp → Prop := fun x H1 => ∃ a, x = .ref a ∧ (((∃ xs, SqL K H1 a xs) ∧ loopK (Itl K a) g tb D σ H1) ∨ ((∃ xs, SqT K H1 a xs) ∧ loopK (Itt K a) g tb D σ H1))
theorem x_forS (h : tl σ H (frS K g tb D σ)) : tFor (iSeq K tl) g tb D σ H := h
/-- a list (k) or a tuple -/
def SqB (k : Bool) (K : PySem.W.Frag) (H : Hp) (a : Addr) (xs : List V) : Prop := if k = true then SqL K H a xs else SqT K H a xs
theorem sqB_of (h : H a = some (.lst xs) ∨ H a = some (.tup xs)) : ∃ k, ∀ H', Same H H' → SqB k K H' a xs := by
  rcases h with h | h
  · exact ⟨true, fun H' s => SqL.of (s _ _ h)⟩
  · exact ⟨false, fun H' s => SqT.of (s _ _ h)⟩
theorem x_frS {k : Bool} (hq : SqB k K H a xs) (Pv : Nat → L2.St → Hp → Prop) (h0 : Pv 0 σ H) (hl : ∀ i σ' H', i ≤ xs.length → Pv i σ' H' → SqB k K H' a xs)
    (hs : ∀ i x σ H, xs[i]? = some x → Pv i σ H → g x σ H fun σ2 H2 => tb { D with nx := Pv (i + 1), ct := Pv (i + 1), bk := D.nx } σ2 H2) (hd : ∀ σ H, Pv xs.length σ H → D.nx σ H) : frS K g tb D σ (.ref a) H := by
  cases k with
  | true => exact ⟨a, rfl, .inl ⟨⟨_, hq⟩, for_list Pv h0 hl hs hd⟩⟩
  | false => exact ⟨a, rfl, .inr ⟨⟨_, hq⟩, for_tup Pv h0 hl hs hd⟩⟩
def frR1 (g : TG) (tb : TS) (D : Ends) (σ : L2.St) : List V → Hp → Prop := fun vs H1 => ∃ j : Int, vs = [.int j] ∧ -(2 ^ 62) ≤ j ∧ j < 2 ^ 62 ∧ loopK (Itr 0 j.toNat) g tb D σ H1
theorem x_forR1 (h : ta σ H (frR1 g tb D σ)) : tFor (iRng1 ta) g tb D σ H := h
theorem x_frR1 {j : Int} (b : -(2 ^ 62) ≤ j ∧ j < 2 ^ 62) (Pv : Nat → L2.St → Hp → Prop) (h0 : Pv 0 σ H)
    (hs : ∀ i σ H, i < j.toNat → Pv i σ H → g (.int (0 + i)) σ H fun σ2 H2 => tb { D with nx := Pv (i + 1), ct := Pv (i + 1), bk := D.nx } σ2 H2) (hd : ∀ σ H, Pv j.toNat σ H → D.nx σ H) : frR1 g tb D σ [.int j] H :=
  ⟨j, rfl, b.1, b.2, for_range Pv h0 hs hd⟩
def frR2 (g : TG) (tb : TS) (D : Ends) (σ : L2.St) : List V → Hp → Prop := fun vs H1 => ∃ i j : Int, vs = [.int i, .int j] ∧ (-(2 ^ 62) ≤ i ∧ i < 2 ^ 62 ∧ -(2 ^ 62) ≤ j ∧ j < 2 ^ 62) ∧ loopK (Itr i (j - i).toNat) g tb D σ H1
theorem x_forR2 (h : ta σ H (frR2 g tb D σ)) : tFor (iRng2 ta) g tb D σ H := h
theorem x_frR2 {lo j : Int} (b : -(2 ^ 62) ≤ lo ∧ lo < 2 ^ 62 ∧ -(2 ^ 62) ≤ j ∧ j < 2 ^ 62) (Pv : Nat → L2.St → Hp → Prop) (h0 : Pv 0 σ H)
    (hs : ∀ i σ H, i < (j - lo).toNat → Pv i σ H → g (.int (lo + i)) σ H fun σ2 H2 => tb { D with nx := Pv (i + 1), ct := Pv (i + 1), bk := D.nx } σ2 H2) (hd : ∀ σ H, Pv (j - lo).toNat σ H → D.nx σ H) : frR2 g tb D σ [.int lo, .int j] H :=
  ⟨lo, j, rfl, b, for_range Pv h0 hs hd⟩
theorem x_gtup2 {i j : Nat} {QS : L2.St → Hp → Prop} {x y : V} (h : SqT K H a [x, y]) (q : QS ((σ.set i (some x)).set j (some y)) H) : gTup K 2 (gCons (gName i) (gCons (gName j) gNil)) (.ref a) σ H QS :=
  ⟨a, [x, y], rfl, h, rfl, x, [y], rfl, y, [], rfl, rfl, q⟩
theorem x_gtup3 {i j k : Nat} {QS : L2.St → Hp → Prop} {x y z : V} (h : SqT K H a [x, y, z]) (q : QS (((σ.set i (some x)).set j (some y)).set k (some z)) H) : gTup K 3 (gCons (gName i) (gCons (gName j) (gCons (gName k) gNil))) (.ref a) σ H QS :=
  ⟨a, [x, y, z], rfl, h, rfl, x, [y, z], rfl, y, [z], rfl, z, [], rfl, rfl, q⟩
theorem x_gtup4 {i j k l : Nat} {QS : L2.St → Hp → Prop} {x y z u : V} (h : SqT K H a [x, y, z, u]) (q : QS ((((σ.set i (some x)).set j (some y)).set k (some z)).set l (some u)) H) : gTup K 4 (gCons (gName i) (gCons (gName j) (gCons (gName k) (gCons (gName l) gNil)))) (.ref a) σ H QS :=
  ⟨a, [x, y, z, u], rfl, h, rfl, x, [y, z, u], rfl, y, [z, u], rfl, z, [u], rfl, u, [], rfl, rfl, q⟩
theorem x_glst4 {i j k l : Nat} {QS : L2.St → Hp → Prop} {x y z u : V} (h : SqL K H a [x, y, z, u]) (q : QS ((((σ.set i (some x)).set j (some y)).set k (some z)).set l (some u)) H) : gLst K 4 (gCons (gName i) (gCons (gName j) (gCons (gName k) (gCons (gName l) gNil)))) (.ref a) σ H QS :=
  ⟨a, [x, y, z, u], rfl, h, rfl, x, [y, z, u], rfl, y, [z, u], rfl, z, [u], rfl, u, [], rfl, rfl, q⟩
def frEn (K : PySem.W.Frag) (g : TG) (tb : TS) (D : Ends) (σ : L2.St) : List V → Hp → Prop := fun vs H1 => ∃ a xs, vs = [.ref a] ∧ SqL K H1 a xs ∧ loopK (Ite K a) g tb D σ H1
theorem x_forEn (h : ta σ H (frEn K g tb D σ)) : tFor (iEnum K ta) g tb D σ H := h
def frZ (K : PySem.W.Frag) (g : TG) (tb : TS) (D : Ends) (σ : L2.St) : List V → Hp → Prop := fun vs H1 => ∃ a b xs ys, vs = [.ref a, .ref b] ∧ SqL K H1 a xs ∧ SqL K H1 b ys ∧ loopK (Itz K a b) g tb D σ H1
theorem x_forZ (h : ta σ H (frZ K g tb D σ)) : tFor (iZip K ta) g tb D σ H := h
/-! comprehensions -/
/-- tuples stay -/
def TupS (H H' : Hp) : Prop := ∀ a xs, H a = some (.tup xs) → H' a = some (.tup xs)
theorem TupS.of {H H' : Hp} (h : Same H H') : TupS H H' := fun a xs e => h a _ e
theorem TupS.trans {H H1 H2 : Hp} (a : TupS H H1) (b : TupS H1 H2) : TupS H H2 := fun c o h => b c o (a c o h)
theorem TupS.upd {H : Hp} {p : Addr} {o o' : HO} (h : H p = some o) (ho : ∀ xs, o ≠ .tup xs) : TupS H (upd H p o') := fun a xs e => by
  rw [upd_ne (ne_of e h (fun z => ho xs z.symm))]; exact e
def lcK (J : It) (g : TG) (tt : TT) (te : TE) (vs : List Nat) (σ : L2.St) (Q : VK) (H1 : Hp) : Prop := ∀ D, H1 D = none → ∃ W : Nat → Nat → Hp → Prop, (∃ m, W 0 m (upd H1 D (.lst []))) ∧ ∀ i m H, W i m H →
  (J.stop i H ∧ Q (.ref D) H) ∨ (J.go i H ∧ ∃ Nx : Hp → Prop, (∀ H', Nx H' → ∃ m', m' < m ∧ W (i + 1) m' H') ∧ ∀ x H', J.yld i H x H' → g x (wipe σ vs) H' fun σ2 H2 => wipe σ2 vs = wipe σ vs ∧ tt σ2 H2 fun b H3 =>
    if b = true then te σ2 H3 fun y H4 => ∃ acc, H4 D = some (.lst acc) ∧ acc.length < sizeLine ∧ Nx (upd H4 D (.lst (acc ++ [y]))) else Nx H3)
def lcL (K : PySem.W.Frag) (g : TG) (tt : TT) (te : TE) (vs : List Nat) (σ : L2.St) (Q : VK) : V → Hp → Prop := fun x H1 => ∃ a, x = .ref a ∧ (∃ xs, SqL K H1 a xs) ∧ lcK (Itl K a) g tt te vs σ Q H1
theorem x_lcL (h : tl σ H (lcL K g tt te vs σ Q)) : tLc (iList K tl) g tt te vs σ H Q := h
/-- what a turn of a comprehension asks -/
def LcTurn (g : TG) (tt : TT) (te : TE) (vs : List Nat) (σ : L2.St) (A : Nat → List V → Hp → Prop) (i : Nat) (x : V) (acc : List V) (H' : Hp) : Prop :=
  ∀ (NY : VK) (NN : Hp → Prop), (∀ y H4, Same H' H4 → A (i + 1) (acc ++ [y]) H4 → NY y H4) → (∀ H3, Same H' H3 → A (i + 1) acc H3 → NN H3) →
    g x (wipe σ vs) H' fun σ2 H2 => wipe σ2 vs = wipe σ vs ∧ tt σ2 H2 fun b H3 => if b = true then te σ2 H3 NY else NN H3
theorem lc_gen {n : Nat} {J : It} (Y : Nat → V → Prop) (A : Nat → List V → Hp → Prop) (hA : ∀ i acc H H', TupS H H' → A i acc H → A i acc H') (hn : n < sizeLine) (h0 : A 0 [] H)
    (hJ : ∀ (Pv : Nat → Hp → Prop) (Dr : Addr), (∀ i H', Pv i H' → Same H H') → Pv 0 (upd H Dr (.lst [])) →
      (∀ i x H', Y i x → Pv i H' → g x (wipe σ vs) H' fun σ2 H2 => wipe σ2 vs = wipe σ vs ∧ tt σ2 H2 fun b H3 =>
        if b = true then te σ2 H3 fun y H4 => ∃ acc, H4 Dr = some (.lst acc) ∧ acc.length < sizeLine ∧ Pv (i + 1) (upd H4 Dr (.lst (acc ++ [y]))) else Pv (i + 1) H3) →
      (∀ H', Pv n H' → Q (.ref Dr) H') → ∃ W : Nat → Nat → Hp → Prop, (∃ m, W 0 m (upd H Dr (.lst []))) ∧ ∀ i m H, W i m H →
        (J.stop i H ∧ Q (.ref Dr) H) ∨ (J.go i H ∧ ∃ Nx : Hp → Prop, (∀ H', Nx H' → ∃ m', m' < m ∧ W (i + 1) m' H') ∧ ∀ x H', J.yld i H x H' → g x (wipe σ vs) H' fun σ2 H2 => wipe σ2 vs = wipe σ vs ∧ tt σ2 H2 fun b H3 =>
          if b = true then te σ2 H3 fun y H4 => ∃ acc, H4 Dr = some (.lst acc) ∧ acc.length < sizeLine ∧ Nx (upd H4 Dr (.lst (acc ++ [y]))) else Nx H3))
    (hs : ∀ i x acc H', Y i x → Same H H' → A i acc H' → LcTurn g tt te vs σ A i x acc H')
    (hY : ∀ i x, Y i x → i < n) (hd : ∀ p acc H', H p = none → Same H H' → H' p = some (.lst acc) → A n acc H' → Q (.ref p) H') : lcK J g tt te vs σ Q H := by
  intro Dr hD
  refine hJ (fun i H' => ∃ acc, H' Dr = some (.lst acc) ∧ acc.length ≤ i ∧ Same H H' ∧ A i acc H') Dr (fun i H' ⟨_, _, _, s, _⟩ => s) ⟨[], upd_same, Nat.le_refl _, same_upd hD, hA _ _ _ _ (TupS.of (same_upd hD)) h0⟩ ?_ ?_
  · rintro i x H' hy ⟨acc, h1, h2, h3, h4⟩
    have hi := hY i x hy
    refine hs i x acc H' hy h3 h4 _ _ (fun y H4 s4 a4 => ?_) (fun H3 s3 a3 => ⟨acc, s3 _ _ h1, Nat.le_succ_of_le h2, h3.trans s3, a3⟩)
    have e4 := s4 _ _ h1
    refine ⟨acc, e4, by omega, acc ++ [y], upd_same, by rw [List.length_append]; exact Nat.add_le_add h2 (Nat.le_refl _), fun b o e => ?_, hA _ _ _ _ (TupS.upd e4 (fun _ z => by cases z)) a4⟩
    rw [upd_ne (ne_of_none e hD)]
    exact s4 _ _ (h3 _ _ e)
  · rintro H' ⟨acc, h1, h2, h3, h4⟩
    exact hd Dr acc H' hD h3 h1 h4
theorem x_lcLK (hq : SqL K H a xs) (A : Nat → List V → Hp → Prop) (hA : ∀ i acc H H', TupS H H' → A i acc H → A i acc H') (hn : xs.length < sizeLine) (h0 : A 0 [] H)
    (hs : ∀ i x acc H', xs[i]? = some x → Same H H' → A i acc H' → LcTurn g tt te vs σ A i x acc H')
    (hd : ∀ p acc H', H p = none → Same H H' → H' p = some (.lst acc) → A xs.length acc H' → Q (.ref p) H') : lcL K g tt te vs σ Q (.ref a) H :=
  ⟨a, rfl, ⟨_, hq⟩, lc_gen (fun i x => xs[i]? = some x) A hA hn h0 (fun Pv Dr hP p0 ht hd => lc_list (K := K) (a := a) (xs := xs) Pv p0 (fun i H' _ p => (hP i H' p).seq hq) ht hd) hs (fun i x h => (List.getElem?_eq_some_iff.mp h).1) hd⟩
def lcR1 (g : TG) (tt : TT) (te : TE) (vs : List Nat) (σ : L2.St) (Q : VK) : List V → Hp → Prop := fun ws H1 => ∃ j : Int, ws = [.int j] ∧ -(2 ^ 62) ≤ j ∧ j < 2 ^ 62 ∧ lcK (Itr 0 j.toNat) g tt te vs σ Q H1
theorem x_lcR1 (h : ta σ H (lcR1 g tt te vs σ Q)) : tLc (iRng1 ta) g tt te vs σ H Q := h
def lcR2 (g : TG) (tt : TT) (te : TE) (vs : List Nat) (σ : L2.St) (Q : VK) : List V → Hp → Prop := fun ws H1 => ∃ i j : Int, ws = [.int i, .int j] ∧ (-(2 ^ 62) ≤ i ∧ i < 2 ^ 62 ∧ -(2 ^ 62) ≤ j ∧ j < 2 ^ 62) ∧ lcK (Itr i (j - i).toNat) g tt te vs σ Q H1
theorem x_lcR2 (h : ta σ H (lcR2 g tt te vs σ Q)) : tLc (iRng2 ta) g tt te vs σ H Q := h
theorem x_yes {QB : Bool → Hp → Prop} (q : QB true H) : tYes σ H QB := q
/-! methods of built-in types -/
def bmK (K : PySem.W.Frag) (T : String) (r : V → List V → Hp → VK → Prop) (t : TA) (σ : L2.St) (Q : VK) : V → Hp → Prop := fun x H1 => tyV K T x H1 ∧ t σ H1 fun xs H2 => r x xs H2 Q
theorem x_bm {T : String} {r : V → List V → Hp → VK → Prop} {t : TA} (h : te σ H (bmK K T r t σ Q)) : tBM K T r te t σ H Q := h
theorem x_bmL {r : V → List V → Hp → VK → Prop} {t : TA} (hq : SqL K H a xs) (h : t σ H fun ws H2 => r (.ref a) ws H2 Q) : bmK K "list" r t σ Q (.ref a) H := ⟨.inl ⟨rfl, _, hq⟩, h⟩
def bm0K (K : PySem.W.Frag) (T : String) (r : V → List V → Hp → VK → Prop) (Q : VK) : V → Hp → Prop := fun x H1 => tyV K T x H1 ∧ r x [] H1 Q
theorem x_bm0 {T : String} {r : V → List V → Hp → VK → Prop} (h : te σ H (bm0K K T r Q)) : tBM0 K T r te σ H Q := h
theorem x_bm0L {r : V → List V → Hp → VK → Prop} (hq : SqL K H a xs) (h : r (.ref a) [] H Q) : bm0K K "list" r Q (.ref a) H := ⟨.inl ⟨rfl, _, hq⟩, h⟩
theorem x_append {y : V} (h : H a = some (.lst xs)) (q : Q .non (upd H a (.lst (xs ++ [y])))) (hl : xs.length < sizeLine) : rAppend (.ref a) [y] H Q := ⟨a, xs, y, rfl, rfl, h, hl, q⟩
theorem x_clear (h : H a = some (.lst xs)) (q : Q .non (upd H a (.lst []))) : rClear (.ref a) [] H Q := ⟨a, xs, rfl, rfl, h, q⟩
/-! objects -/
theorem x_mk0 {C : Addr} (h : ∀ x dx H1, H x = none → H dx = none → dx ≠ x → Same H H1 → H1 x = some (.ins C dx []) → H1 dx = some (.own x) → Q (.ref x) H1) : tMake0 C σ H Q := fun x dx n nd ne =>
  h x dx _ n nd ne ((same_upd nd).trans (same_upd (by rw [upd_ne (Ne.symm ne)]; exact n))) upd_same (by rw [upd_ne ne, upd_same])
def mkK (C : Addr) (sp : Sp) (dvs : List V) (Q : VK) (E : XK) : List V → Hp → Prop := fun vs H1 => ∀ x dx, H1 x = none → H1 dx = none → dx ≠ x →
  sp (.ref x :: (vs ++ dvs)) (upd (upd H1 dx (.own x)) x (.ins C dx [])) (fun v H2 => v = .non ∧ Q (.ref x) H2) E
theorem x_mkS {C : Addr} {sp : Sp} {dvs : List V} {E : L2.St → XK} {t : TA} (h : t σ H (mkK C sp dvs Q (E σ))) : tMakeS C sp dvs E t σ H Q := h
theorem x_mkK {C : Addr} {sp : Sp} {dvs ws : List V} {E : XK} (h : ∀ x dx H1, H x = none → H dx = none → dx ≠ x → Same H H1 → H1 x = some (.ins C dx []) → H1 dx = some (.own x) → sp (.ref x :: (ws ++ dvs)) H1 (fun v H2 => v = .non ∧ Q (.ref x) H2) E) :
    mkK C sp dvs Q E ws H := fun x dx n nd ne => h x dx _ n nd ne ((same_upd nd).trans (same_upd (by rw [upd_ne (Ne.symm ne)]; exact n))) upd_same (by rw [upd_ne ne, upd_same])
theorem x_methD {P : Program} {w : World} {mg : Str → Option Value} {base : Heap} {CX : CXT} {n : Nat} {m : Str} {E : L2.St → XK} {t : TA} (h : te σ H (mtK P w K mg base CX n m (E σ) σ t Q)) : tMethD P w K mg base CX n m E te t σ H Q := h
theorem x_mtK {P : Program} {w : World} {mg : Str → Option Value} {base : Heap} {CX : CXT} {n : Nat} {m : Str} {E : XK} {t : TA} {C dx : Addr} {fs : List (Str × V)} {sp : Sp} (ho : H a = some (.ins C dx fs)) (hm : MO P w K mg base CX n C m sp) (hl : fs.lookup m = none)
    (h : t σ H fun vs H2 => sp (.ref a :: vs) H2 Q E) : mtK P w K mg base CX n m E σ t Q (.ref a) H := ⟨a, C, dx, fs, sp, rfl, ho, hl, hm, h⟩
def fldK (K : PySem.W.Frag) (f : Str) (Q : VK) : V → Hp → Prop := fun x H1 => ∃ a C dx fs v, x = .ref a ∧ H1 a = some (.ins C dx fs) ∧ Cls K C ∧ NoAttr K C f ∧ fs.lookup f = some v ∧ Q v H1
theorem x_fld {f : Str} (h : te σ H (fldK K f Q)) : tFld K te f σ H Q := h
theorem x_fldK {f : Str} {C dx : Addr} {fs : List (Str × V)} {v : V} (ho : H a = some (.ins C dx fs)) (hl : fs.lookup f = some v) (q : Q v H) (hc : Cls K C) (hn : NoAttr K C f) : fldK K f Q (.ref a) H := ⟨a, C, dx, fs, v, rfl, ho, hc, hn, hl, q⟩
def sfK (K : PySem.W.Frag) (f : Str) (y : V) (D : Ends) (σ : L2.St) : V → Hp → Prop := fun x H2 => ∃ a C dx fs, x = .ref a ∧ H2 a = some (.ins C dx fs) ∧ Cls K C ∧ NoAttr K C f ∧ fs.length < 1000 ∧ D.nx σ (upd H2 a (.ins C dx (putF f y fs)))
theorem x_sfld {f : Str} (h : te σ H fun y H1 => tl σ H1 (sfK K f y D σ)) : sFld K tl te f D σ H := h
end
theorem _root_.L2.FunD.okX {P : Program} {w : World} {K : PySem.W.Frag} {mg : Str → Option Value} {base : Heap} {x qual : Str} {st : Stmt} {f : Addr} {fd : FuncData} {dvs : List V} {kws : List (Str × V)} {N ps : List Str} {k : Nat} {sp : Sp}
    (F : FunD K x qual (defArgs st) (defBody st) (defScope st) dvs kws f fd) (S : FnScope N ps (defScope st)) (len : ∀ vs H Q E, sp vs H Q E → vs.length = ps.length)
    (hbody : ∀ (cdv : Value) (A : Around) (outer : List Env) (s : Shared) (H : Hp) (vs : List V) (Q : VK) (E : XK), Room k (A.deeper (envOfC qual (defScope st) s.heap.objs.size f cdv)) → sp vs H Q E →
      ∃ t, PSs (cxOf (L2.CX P w) P w K mg base N qual (defScope st) f cdv A outer s H E) (defBody st) t ∧ t { nx := fun _ H' => Q .non H', rt := Q } (start N vs) H) : FnOk P w K mg base (L2.CX P w) (k + 1) f fd ps sp := F.ok S len hbody
/-! ### fields added to, while, is, in -/
section
variable {σ : L2.St} {H : Hp} {K : PySem.W.Frag} {D : Ends} {ta tv te : TE} {tb : TS} {tc : TT} {a : Addr} {Q : VK} {x y : V} {f : Str} {rd : V → V → Hp → VK → Prop}
/-- all but what stands at S stays -/
def Off (S : List Addr) (H H' : Hp) : Prop := ∀ b o, b ∉ S → H b = some o → H' b = some o
theorem Off.refl {S : List Addr} : Off S H H := fun _ _ _ h => h
theorem Off.of {S : List Addr} {H' : Hp} (s : Same H H') : Off S H H' := fun b o _ h => s b o h
theorem Off.trans {S : List Addr} {H1 H2 : Hp} (h1 : Off S H H1) (h2 : Off S H1 H2) : Off S H H2 := fun b o n h => h2 b o n (h1 b o n h)
theorem Off.sub {S S' : List Addr} {H' : Hp} (h : Off S H H') (hs : ∀ b, b ∈ S → b ∈ S') : Off S' H H' := fun b o n e => h b o (fun m => n (hs b m)) e
theorem Off.same {S : List Addr} {H1 H2 : Hp} (s : Same H H1) (h : Off S H1 H2) (n : ∀ b, b ∈ S → H b = none) : Same H H2 := fun b o e => h b o (fun m => by rw [n b m] at e; cases e) (s b o e)
theorem same_none {H' : Hp} {b : Addr} (s : Same H H') (h : H' b = none) : H b = none := by
  cases e : H b with
  | none => rfl
  | some o => rw [s _ _ e] at h; cases h
theorem Off.same1 {H1 H2 : Hp} (s : Same H H1) (h : Off [a] H1 H2) (n : H a = none) : Same H H2 := h.same s fun b hb => by rw [List.mem_singleton] at hb; rw [hb]; exact n
theorem Off.at {S : List Addr} {H1 : Hp} {b : Addr} {o : HO} (h : Off S H H1) (e : H b = some o) (n : b ∉ S) : H1 b = some o := h b o n e
theorem Off.upd {S : List Addr} {o : HO} (h : a ∈ S) : Off S H (upd H a o) := fun b u n e => by
  rw [upd_ne (fun z => n (by rw [z]; exact h))]; exact e
theorem Off.lst {r : Addr} {H H' : Hp} {C dx : Addr} {fs : List (Str × V)} {a : Addr} {xs : List V} (s : Off [r] H H') (hr : H r = some (.ins C dx fs)) (h : H a = some (.lst xs)) : H' a = some (.lst xs) := s a _ (fun m => by
  rw [List.mem_singleton] at m; subst m; rw [hr] at h; cases h) h
theorem Off.tup {r : Addr} {H H' : Hp} {C dx : Addr} {fs : List (Str × V)} {a : Addr} {xs : List V} (s : Off [r] H H') (hr : H r = some (.ins C dx fs)) (h : H a = some (.tup xs)) : H' a = some (.tup xs) := s a _ (fun m => by
  rw [List.mem_singleton] at m; subst m; rw [hr] at h; cases h) h
theorem Off.ins {r : Addr} {H H' : Hp} {a : Addr} {o : HO} (s : Off [r] H H') (hne : a ≠ r) (h : H a = some o) : H' a = some o := s a _ (fun m => hne (List.mem_singleton.mp m)) h
theorem Off.tups {r : Addr} {H H' : Hp} {C dx : Addr} {fs : List (Str × V)} (s : Off [r] H H') (hr : H r = some (.ins C dx fs)) : TupS H H' := fun a xs h => s.tup hr h
def f3K (a C : Addr) (f : Str) (D : Ends) (σ : L2.St) : VK := fun z H3 => ∃ dx' fs', H3 a = some (.ins C dx' fs') ∧ fs'.length < 1000 ∧ D.nx σ (upd H3 a (.ins C dx' (putF f z fs')))
def faK (K : PySem.W.Frag) (tv : TE) (rd : V → V → Hp → VK → Prop) (f : Str) (D : Ends) (σ : L2.St) : V → Hp → Prop := fun x H1 => ∃ a C dx fs v, x = .ref a ∧ H1 a = some (.ins C dx fs) ∧ Cls K C ∧ NoAttr K C f ∧ fs.lookup f = some v ∧
  tv σ H1 fun y H2 => rd v y H2 (f3K a C f D σ)
theorem x_fldAug (h : ta σ H (faK K tv rd f D σ)) : sFldAug K ta tv rd f D σ H := h
theorem x_faK {C dx : Addr} {fs : List (Str × V)} {v : V} (ho : H a = some (.ins C dx fs)) (hl : fs.lookup f = some v) (q : tv σ H fun y H2 => rd v y H2 (f3K a C f D σ)) (hc : Cls K C) (hn : NoAttr K C f) : faK K tv rd f D σ (.ref a) H := ⟨a, C, dx, fs, v, rfl, ho, hc, hn, hl, q⟩
theorem putF_new {f : Str} {y : V} : ∀ {fs : List (Str × V)}, fs.lookup f = none → putF f y fs = fs ++ [(f, y)]
  | [], _ => rfl
  | (g, x) :: r, h => by
    rw [List.lookup_cons] at h
    by_cases e : f = g
    · subst e; simp at h
    · rw [show (f == g) = false from beq_eq_false_iff_ne.mpr e] at h
      show (if g = f then _ else _) = _
      rw [if_neg (Ne.symm e), putF_new h]
      rfl
/-- self.f = y, f new -/
theorem x_sfN {C dx : Addr} {fs : List (Str × V)} (ho : H a = some (.ins C dx fs)) (hf : fs.lookup f = none) (q : ∀ H1, Off [a] H H1 → H1 a = some (.ins C dx (fs ++ [(f, y)])) → D.nx σ H1) (hc : Cls K C) (hn : NoAttr K C f) (hl : fs.length < 1000) : sfK K f y D σ (.ref a) H :=
  ⟨a, C, dx, fs, rfl, ho, hc, hn, hl, by rw [putF_new hf]; exact q _ (Off.upd (List.mem_singleton.mpr rfl)) upd_same⟩
/-- self.f = y, f there -/
theorem x_sfO {C dx : Addr} {fs fs' : List (Str × V)} (ho : H a = some (.ins C dx fs)) (hf : putF f y fs = fs') (q : ∀ H1, Off [a] H H1 → H1 a = some (.ins C dx fs') → D.nx σ H1) (hc : Cls K C) (hn : NoAttr K C f) (hl : fs.length < 1000) : sfK K f y D σ (.ref a) H :=
  ⟨a, C, dx, fs, rfl, ho, hc, hn, hl, by rw [hf]; exact q _ (Off.upd (List.mem_singleton.mpr rfl)) upd_same⟩
theorem x_gsub {to ti : TE} {t : TSet} {v : V} {QS : L2.St → Hp → Prop} (h : to σ H fun o H1 => ti σ H1 fun i H2 => t o i v H2 fun H3 => QS σ H3) : gSub to ti t v σ H QS := h
theorem x_setL {xs : List V} {k : Int} {v : V} {QS : Hp → Prop} (hp : H a = some (.lst xs)) (q : ∀ H1, Off [a] H H1 → H1 a = some (.lst (xs.set k.toNat v)) → QS H1) (h0 : 0 ≤ k) (h1 : k < xs.length) : rSetL (.ref a) (.int k) v H QS :=
  ⟨a, xs, k, k.toNat, rfl, rfl, hp, by unfold ixN; rw [if_pos h0, if_pos h1], q _ (Off.upd (List.mem_singleton.mpr rfl)) upd_same⟩
/-- xs[i] of an augmented store -/
def rGetL (K : PySem.W.Frag) : V → V → Hp → VK → Prop := fun o i H Q => ∃ p xs k v, o = .ref p ∧ i = .int k ∧ SqL K H p xs ∧ 0 ≤ k ∧ xs[k.toNat]? = some v ∧ Q v H
theorem get_list {X : Cx} : PGet X (rGetL X.K) := by
  intro pins s σ H o i ov iv Q I ro ri h
  obtain ⟨p, xs, k, v, rfl, rfl, hq, h0, he, q⟩ := h
  cases ro
  obtain ⟨t, rfl⟩ := ri
  obtain ⟨its, r, pl, hz⟩ := I.list hq
  obtain ⟨w, ew, rw'⟩ := r.get he
  have hl := r.length
  have hn := line63
  have hlt := (List.getElem?_eq_some_iff.mp he).1
  exact wpAny_getItem_list pl.isList h0 (by omega) (by simpa using ew) ⟨v, H, I, rw', q⟩
theorem x_augS {to ti te : TE} {tget : V → V → Hp → VK → Prop} {tip : TIp} {tset : TSet} (h : to σ H fun o H1 => ti σ H1 fun i H2 => tget o i H2 fun x H3 => te σ H3 fun y H4 => tip x y H4 fun z H5 => tset o i z H5 fun H6 => D.nx σ H6) : tAugS to ti te tget tip tset D σ H := h
theorem x_seqAS {to ti te : TE} {tget : V → V → Hp → VK → Prop} {tip : TIp} {tset : TSet} {u : TS} (h : tAugS to ti te tget tip tset { D with nx := u D } σ H) : tSeq (tAugS to ti te tget tip tset) u D σ H := h
theorem x_getL {xs : List V} {k : Int} (h : SqL K H a xs) (q : Q (xs.getD k.toNat .non) H) (h0 : 0 ≤ k) (h1 : k < xs.length) : rGetL K (.ref a) (.int k) H Q := ⟨a, xs, k, _, rfl, rfl, h, h0, by
  have hn : k.toNat < xs.length := by omega
  simp [hn], q⟩
theorem x_getI {ns : List Int} {k : Int} (h : SqL K H a (ns.map V.int)) (q : Q (.int (ns.getD k.toNat 0)) H) (h0 : 0 ≤ k) (h1 : k < ns.length) : rGetL K (.ref a) (.int k) H Q := ⟨a, _, k, _, rfl, rfl, h, h0, by
  have hn : k.toNat < ns.length := by omega
  simp [hn], q⟩
theorem x_rSub {m n : Int} (q : Q (.int (m - n)) H) : rSub (.int m) (.int n) H Q := ⟨m, n, rfl, rfl, q⟩
/-- == and != of scalars of any kinds -/
theorem x_eqSc (h : scal x y = true) (q : Q (.bl (decide (x = y))) H) : uEq K x y H Q := .inl ⟨h, q⟩
theorem x_neSc (h : scal x y = true) (q : Q (.bl (!decide (x = y))) H) : uNe K x y H Q := .inl ⟨h, q⟩
/-- xs[i] by values that are named otherwise -/
theorem x_ixF {α : Type} {l : List α} {g : α → V} {k : Int} (d : α) (h : SqL K H a (l.map g)) (q : Q (g (l.getD k.toNat d)) H) (h0 : 0 ≤ k) (h1 : k < l.length) : rIx K (.ref a) (.int k) H Q := by
  have hn : k.toNat < l.length := by omega
  refine x_ixL h ?_ h0 (by rw [List.length_map]; exact h1)
  rw [show (l.map g).getD k.toNat .non = g (l.getD k.toNat d) by simp [hn]]
  exact q
theorem x_f3O {C dx : Addr} {fs fs' : List (Str × V)} {z : V} (ho : H a = some (.ins C dx fs)) (hf : putF f z fs = fs') (q : ∀ H1, Off [a] H H1 → H1 a = some (.ins C dx fs') → D.nx σ H1) (hl : fs.length < 1000) : f3K a C f D σ z H := ⟨dx, fs, ho, hl, by rw [hf]; exact q _ (Off.upd (List.mem_singleton.mpr rfl)) upd_same⟩
theorem nin_of {b : Addr} (h : b ≠ a) : b ∉ [a] := fun z => h (List.mem_singleton.mp z)
theorem x_appO {xs : List V} (h : H a = some (.lst xs)) (q : ∀ H1, Off [a] H H1 → H1 a = some (.lst (xs ++ [y])) → Q .non H1) (hl : xs.length < sizeLine) : rAppend (.ref a) [y] H Q := ⟨a, xs, y, rfl, rfl, h, hl, q _ (Off.upd (List.mem_singleton.mpr rfl)) upd_same⟩
theorem str_len {n : Int} (h0 : 0 ≤ n) (h1 : n < 300) : (Str.ofString (toString n)).length ≤ 20 := by
  have k : ∀ m : Nat, m < 300 → (Str.ofString (toString (m : Int))).length ≤ 20 := by decide +kernel
  have := k n.toNat (by omega)
  rwa [show ((n.toNat : Nat) : Int) = n by omega] at this
theorem small_log {n : Int} (h0 : 0 ≤ n) (h1 : n < 1000000) : n.natAbs.log2 < 1920 := by
  by_cases e : n.natAbs = 0
  · rw [e]; decide
  · exact (Nat.log2_lt e).mpr (Nat.lt_of_lt_of_le (show n.natAbs < 2 ^ 20 by omega) (Nat.pow_le_pow_right (by decide) (by decide)))
theorem x_ixB {bs : List Bool} {k : Int} (h : SqL K H a (bs.map V.bl)) (q : Q (.bl (bs.getD k.toNat false)) H) (h0 : 0 ≤ k) (h1 : k < bs.length) : rIx K (.ref a) (.int k) H Q := x_ixF false h q h0 h1
theorem off_none {r b : Addr} {H1 : Hp} (h : Off [r] H H1) (n : H1 b = none) (hne : b ≠ r) : H b = none := by
  cases e : H b with
  | none => rfl
  | some o => rw [h.at e (nin_of hne)] at n; cases n
theorem line_len {n : Nat} (h : n ≤ 1000) : n ≤ sizeLine := Nat.le_trans h (by decide)
theorem x_rAdd {m n : Int} (q : Q (.int (m + n)) H) : rAdd (.int m) (.int n) H Q := ⟨m, n, rfl, rfl, q⟩
theorem x_aug {i : Nat} {ti : TIp} (h : σ[i]? = some (some x)) (q : te σ H fun y H1 => ti x y H1 fun z H2 => D.nx (σ.set i (some z)) H2) : tAug i te ti D σ H := ⟨x, h, q⟩
theorem x_ipI {g : Int → Int → Int} {m n : Int} (q : Q (.int (g m n)) H) : ipI g (.int m) (.int n) H Q := ⟨m, n, rfl, rfl, q⟩
def whK (W : Nat → L2.St → Hp → Prop) (tb : TS) (D : Ends) (m : Nat) (σ : L2.St) : Bool → Hp → Prop := fun b H1 => if b = true then ∃ N : L2.St → Hp → Prop, (∀ σ' H', N σ' H' → ∃ m', m' < m ∧ W m' σ' H') ∧ tb { D with nx := N, ct := N, bk := D.nx } σ H1 else D.nx σ H1
theorem x_whl (W : Nat → L2.St → Hp → Prop) (m : Nat) (h0 : W m σ H) (hs : ∀ m σ H, W m σ H → tc σ H (whK W tb D m σ)) : tWhile tc tb D σ H := ⟨W, ⟨m, h0⟩, hs⟩
theorem x_whD {W : Nat → L2.St → Hp → Prop} {m : Nat} {p : Prop} [Decidable p] (h1 : p → ∀ N : L2.St → Hp → Prop, (∀ m' σ' H', m' < m → W m' σ' H' → N σ' H') → tb { D with nx := N, ct := N, bk := D.nx } σ H) (h2 : ¬ p → D.nx σ H) : whK W tb D m σ (decide p) H := by
  unfold whK
  refine x_iteD (fun h => ?_) h2
  exact ⟨fun σ' H' => ∃ m', m' < m ∧ W m' σ' H', fun _ _ n => n, h1 h _ fun m' σ' H' l w => ⟨m', l, w⟩⟩
theorem x_isN (q : Q (.bl (decide (x = .non))) H) : uIs x .non H Q := .inl ⟨rfl, q⟩
theorem x_isNotN (q : Q (.bl (!decide (x = .non))) H) : uIsNot x .non H Q := .inl ⟨rfl, q⟩
theorem x_isB {b c : Bool} (q : Q (.bl (decide (b = c))) H) : uIs (.bl b) (.bl c) H Q := .inr ⟨b, c, rfl, rfl, q⟩
theorem x_isNotB {b c : Bool} (q : Q (.bl (!decide (b = c))) H) : uIsNot (.bl b) (.bl c) H Q := .inr ⟨b, c, rfl, rfl, q⟩
theorem inV_int (n : Int) (ns : List Int) : inV (.int n) (ns.map V.int) = decide (n ∈ ns) := by
  unfold inV
  induction ns with
  | nil => rfl
  | cons m ns ih =>
    rw [List.map_cons, List.any_cons, ih]
    have e : eqV (.int m) (.int n) = decide (n = m) := by
      show (m == n) = _
      rw [Bool.eq_iff_iff, beq_iff_eq, decide_eq_true_iff]
      exact ⟨Eq.symm, Eq.symm⟩
    rw [e, ← Bool.decide_or, decide_eq_decide, List.mem_cons]
theorem flat_ints (ns : List Int) : (ns.map V.int).all flatV = true := by
  rw [List.all_eq_true]
  intro x h
  obtain ⟨n, _, rfl⟩ := List.mem_map.mp h
  rfl
theorem x_inI {n : Int} {ns : List Int} (h : SqL K H a (ns.map V.int)) (q : Q (.bl (decide (n ∈ ns))) H) : uIn K (.int n) (.ref a) H Q := ⟨a, _, rfl, .inl h, rfl, flat_ints ns, by rw [inV_int] <;> exact q⟩
theorem x_notInI {n : Int} {ns : List Int} (h : SqL K H a (ns.map V.int)) (q : Q (.bl (!decide (n ∈ ns))) H) : uNotIn K (.int n) (.ref a) H Q := ⟨a, _, rfl, .inl h, rfl, flat_ints ns, by rw [inV_int] <;> exact q⟩
end
/-! ### dicts of text keys -/
section
variable {σ : L2.St} {H : Hp} {K : PySem.W.Frag} {D : Ends} {td ty tv : TE} {a : Addr} {Q : VK} {x v : V} {z : Str} {kvs kvs' : List (L2.Key × V)}
def dgK (x : V) (Q : VK) : V → Hp → Prop := fun y H2 => ∃ a v, x = .ref a ∧ DGet H2 a y (some v) ∧ Q v H2
theorem x_dget (h : td σ H fun x H1 => ty σ H1 (dgK x Q)) : tDGet td ty σ H Q := h
theorem x_dgS (h : H a = some (.dK kvs)) (hv : valV kvs (.inr z) = some v) (q : Q v H) : dgK (.ref a) Q (.str z) H := ⟨a, v, rfl, by rw [← hv]; exact DGet.k (k := .inr z) h, q⟩
theorem x_dgI {n : Int} (h : H a = some (.dK kvs)) (hv : valV kvs (.inl n) = some v) (q : Q v H) : dgK (.ref a) Q (.int n) H := ⟨a, v, rfl, by rw [← hv]; exact DGet.k (k := .inl n) h, q⟩
def dpK (x v : V) (D : Ends) (σ : L2.St) : V → Hp → Prop := fun y H3 => ∃ a H4, x = .ref a ∧ DPut H3 a y v H4 ∧ D.nx σ H4
theorem x_dput (h : tv σ H fun v H1 => td σ H1 fun x H2 => ty σ H2 (dpK x v D σ)) : sDPut td ty tv D σ H := h
theorem x_seqDP {u : TS} (h : sDPut td ty tv { D with nx := u D } σ H) : tSeq (sDPut td ty tv) u D σ H := h
theorem x_dpI {n : Int} (h : H a = some (.dK kvs)) (hk : putK kvs (.inl n) v = kvs') (q : ∀ H1, Off [a] H H1 → H1 a = some (.dK kvs') → D.nx σ H1) (hl : kvs.length ≤ 1000) : dpK (.ref a) v D σ (.int n) H :=
  ⟨a, _, rfl, DPut.k (k := .inl n) h (Nat.lt_of_le_of_lt hl (by decide)), by rw [hk]; exact q _ (Off.upd (List.mem_singleton.mpr rfl)) upd_same⟩
/-- {k: v, ..} -/
def dspK (p : Addr) (Q : VK) : List (V × V) → Hp → Prop := fun ps H2 => H2 p = some (.dK []) ∧ ∃ kvs : List (L2.Key × V), ps = kvs.map (fun kv => (kV kv.1, kv.2)) ∧ kvs.length ≤ 15 ∧ Q (.ref p) (upd H2 p (.dK (mergeK [] kvs)))
theorem x_disp {trs : List (TE × TE)} (h : ∀ p H1, H p = none → Same H H1 → H1 p = some (.dK []) → tPairs trs σ H1 (dspK p Q)) : tDisp trs σ H Q := fun p hp => h p _ hp (same_upd hp) upd_same
theorem x_prN {QP : List (V × V) → Hp → Prop} (q : QP [] H) : tPairs [] σ H QP := q
theorem x_prC {tk tv : TE} {r : List (TE × TE)} {QP : List (V × V) → Hp → Prop} (q : tk σ H fun x H1 => tv σ H1 fun y H2 => tPairs r σ H2 fun ps H3 => QP ((x, y) :: ps) H3) : tPairs ((tk, tv) :: r) σ H QP := q
theorem x_dnew (h : ∀ p H1, H p = none → Same H H1 → H1 p = some (.dK []) → Q (.ref p) H1) : tDNewK σ H Q := fun p hp => h p _ hp (same_upd hp) upd_same
/-! k in d, d.get(k), d.get(k, x), d.setdefault(k, x), d.pop(k), d.pop(k, x) -/
def dinK (y : V) (Q : VK) : V → Hp → Prop := fun x H2 => ∃ a o, x = .ref a ∧ DGet H2 a y o ∧ Q (.bl o.isSome) H2
theorem x_din (h : ty σ H fun y H1 => td σ H1 (dinK y Q)) : tDIn ty td σ H Q := h
def dninK (y : V) (Q : VK) : V → Hp → Prop := fun x H2 => ∃ a o, x = .ref a ∧ DGet H2 a y o ∧ Q (.bl (!o.isSome)) H2
theorem x_dnin (h : ty σ H fun y H1 => td σ H1 (dninK y Q)) : tDNotIn ty td σ H Q := h
theorem x_dninI {n : Int} (h : H a = some (.dK kvs)) (q : Q (.bl (!(valV kvs (.inl n)).isSome)) H) : dninK (.int n) Q (.ref a) H := ⟨a, _, rfl, DGet.k (k := .inl n) h, q⟩
theorem x_dinI {n : Int} (h : H a = some (.dK kvs)) (q : Q (.bl (valV kvs (.inl n)).isSome) H) : dinK (.int n) Q (.ref a) H := ⟨a, _, rfl, DGet.k (k := .inl n) h, q⟩
def dg1E (a : Addr) (Q : VK) : V → Hp → Prop := fun y H2 => ∃ o, DGet H2 a y o ∧ Q (o.getD .non) H2
def dg1K (ty : TE) (Q : VK) (σ : L2.St) : V → Hp → Prop := fun x H1 => ∃ a, x = .ref a ∧ IsD H1 a ∧ ty σ H1 (dg1E a Q)
theorem x_dget1 (h : td σ H (dg1K ty Q σ)) : tDGet1 td ty σ H Q := h
theorem x_dg1K (h : H a = some (.dK kvs)) (q : ty σ H (dg1E a Q)) : dg1K ty Q σ (.ref a) H := ⟨a, rfl, .inl ⟨kvs, .inl h⟩, q⟩
theorem x_dg1I {n : Int} (h : H a = some (.dK kvs)) (q : Q ((valV kvs (.inl n)).getD .non) H) : dg1E a Q (.int n) H := ⟨_, DGet.k (k := .inl n) h, q⟩
def dsE (a : Addr) (Q : VK) (y : V) : V → Hp → Prop := fun z H3 => ∃ (kvs : List (L2.Key × V)) (k : L2.Key), H3 a = some (.dK kvs) ∧ y = kV k ∧ kvs.length < sizeLine ∧ (∀ v, valV kvs k = some v → Q v H3) ∧ (valV kvs k = none → Q z (L2.upd H3 a (.dK (putK kvs k z))))
def dsK (ty tx : TE) (Q : VK) (σ : L2.St) : V → Hp → Prop := fun x H1 => ∃ a, x = .ref a ∧ IsD H1 a ∧ ty σ H1 fun y H2 => tx σ H2 (dsE a Q y)
theorem x_dsetd {tx : TE} (h : td σ H (dsK ty tx Q σ)) : tDSetd td ty tx σ H Q := h
theorem x_dsK {tx : TE} (h : H a = some (.dK kvs)) (q : ty σ H fun y H2 => tx σ H2 (dsE a Q y)) : dsK ty tx Q σ (.ref a) H := ⟨a, rfl, .inl ⟨kvs, .inl h⟩, q⟩
def dpp1E (a : Addr) (Q : VK) : V → Hp → Prop := fun y H2 => ∃ kvs k v, H2 a = some (.dK kvs) ∧ y = kV k ∧ valV kvs k = some v ∧ Q v (L2.upd H2 a (.dK (dropK kvs k)))
def dpp1K (ty : TE) (Q : VK) (σ : L2.St) : V → Hp → Prop := fun x H1 => ∃ a, x = .ref a ∧ IsD H1 a ∧ ty σ H1 (dpp1E a Q)
theorem x_dpop1 (h : td σ H (dpp1K ty Q σ)) : tDPop1 td ty σ H Q := h
theorem x_dpp1K (h : H a = some (.dK kvs)) (q : ty σ H (dpp1E a Q)) : dpp1K ty Q σ (.ref a) H := ⟨a, rfl, .inl ⟨kvs, .inl h⟩, q⟩
theorem x_dpp1I {n : Int} (h : H a = some (.dK kvs)) (hv : valV kvs (.inl n) = some v) (q : ∀ H1, Off [a] H H1 → H1 a = some (.dK (dropK kvs (.inl n))) → Q v H1) : dpp1E a Q (.int n) H := ⟨kvs, .inl n, v, h, rfl, hv, q _ (Off.upd (List.mem_singleton.mpr rfl)) upd_same⟩
def dpp2E (a : Addr) (Q : VK) (y : V) : V → Hp → Prop := fun z H3 => ∃ kvs k, H3 a = some (.dK kvs) ∧ y = kV k ∧ (∀ v, valV kvs k = some v → Q v (L2.upd H3 a (.dK (dropK kvs k)))) ∧ (valV kvs k = none → Q z H3)
def dpp2K (ty tx : TE) (Q : VK) (σ : L2.St) : V → Hp → Prop := fun x H1 => ∃ a, x = .ref a ∧ IsD H1 a ∧ ty σ H1 fun y H2 => tx σ H2 (dpp2E a Q y)
theorem x_dpop2 {tx : TE} (h : td σ H (dpp2K ty tx Q σ)) : tDPop2 td ty tx σ H Q := h
theorem x_dpp2K {tx : TE} (h : H a = some (.dK kvs)) (q : ty σ H fun y H2 => tx σ H2 (dpp2E a Q y)) : dpp2K ty tx Q σ (.ref a) H := ⟨a, rfl, .inl ⟨kvs, .inl h⟩, q⟩
end
/-! ### exceptions -/
section
variable {X : Cx} {K : PySem.W.Frag} {W Wout : WX} {D : Ends} {σ : L2.St} {H : Hp} {cls c : Value} {d : Option Addr} {a C fI : Addr} {Q : VK}
/-- an exception class without an own __init__ -/
structure XC (K : PySem.W.Frag) (C : Addr) : Prop where
  q : PySem.W.excIn K C [.type "ValueError", .type "Exception", .type "BaseException", .type "object"] "ValueError.__new__" = true
  k : PySem.W.keepIn K (.ref C) = true
  r : PySem.W.subIn K (.ref C) (.type "BaseException") = some true
  t : PySem.W.typeIn K (.ref C) = some (.type "type")
/-- one with an own __init__ -/
structure XI (K : PySem.W.Frag) (C fI : Addr) : Prop where
  o : OexC K C
  i : PySem.W.findIn K (.ref C) "__init__" = some (some (.ref fI))
  t : PySem.W.typeIn K (.ref fI) = some (.type "function")
  f : XfC K C
def tRaise (t : L2.St → Hp → XK → Prop) (W : WX) : TS := fun _ σ H => t σ H fun cls d H' => W cls d σ H'
theorem ps_raiseK {e : Expr} {t : L2.St → Hp → XK → Prop} {pos : Pos} (hc : X.calm = true) (tk : Takes X W) (he : PMk X e t) : PS X (.Raise (some e) none pos) (tRaise t W) := ps_raise hc tk he
def tMkE (C : Addr) : L2.St → Hp → XK → Prop := fun _ H Q => Q (.ref C) none H
theorem pmk_ownK {x m : Str} {j : Nat} {p p2 pos : Pos} (T : XC X.K C) (gC : X.mg x = some (.ref C)) (hg : Gl X x) (hdb : (x == ("__debug__" : Str)) = false := by decide) : PMk X (.Call (.Name x p) [.Constant (.str m) j p2] [] pos) (tMkE C) :=
  pmk_own PySem.F.excBase_ValueError T.q gC T.k (raises_own T.r T.t) hg hdb
theorem x_raise {t : L2.St → Hp → XK → Prop} (h : t σ H fun cls d H' => W cls d σ H') : tRaise t W D σ H := h
theorem x_seqR {t : L2.St → Hp → XK → Prop} {u : TS} (h : tRaise t W { D with nx := u D } σ H) : tSeq (tRaise t W) u D σ H := h
theorem x_mkE {Q : XK} (q : Q (.ref C) none H) : tMkE C σ H Q := q
def tTry1 (K : PySem.W.Frag) (c : Value) (tb : WX → TS) (ts : Addr → Value → Option Addr → TS) (Wout : WX) : TS := fun D σ H => tb (wOnly K c ts Wout D) D σ H
theorem x_try1 {tb : WX → TS} {ts : Addr → Value → Option Addr → TS} (h : tb (wOnly K c ts Wout D) D σ H) : tTry1 K c tb ts Wout D σ H := h
theorem x_seqT1 {tb : WX → TS} {ts : Addr → Value → Option Addr → TS} {u : TS} (h : tTry1 K c tb ts Wout { D with nx := u D } σ H) : tSeq (tTry1 K c tb ts Wout) u D σ H := h
def tTryA (K : PySem.W.Frag) (c : Value) (i : Nat) (tb : WX → TS) (ts : Addr → Value → Option Addr → TS) (Wout : WX) : TS := fun D σ H => tb (wAs K c i ts Wout D) D σ H
theorem x_tryA {i : Nat} {tb : WX → TS} {ts : Addr → Value → Option Addr → TS} (h : tb (wAs K c i ts Wout D) D σ H) : tTryA K c i tb ts Wout D σ H := h
theorem x_seqTA {i : Nat} {tb : WX → TS} {ts : Addr → Value → Option Addr → TS} {u : TS} (h : tTryA K c i tb ts Wout { D with nx := u D } σ H) : tSeq (tTryA K c i tb ts Wout) u D σ H := h
/-! several except clauses -/
def tTryM (K : PySem.W.Frag) (l : List (Value × (Addr → Value → Option Addr → TS))) (tb : WX → TS) (Wout : WX) : TS := fun D σ H => tb (wMany K Wout D l) D σ H
theorem x_tryM {l : List (Value × (Addr → Value → Option Addr → TS))} {tb : WX → TS} (h : tb (wMany K Wout D l) D σ H) : tTryM K l tb Wout D σ H := h
theorem x_seqTM {l : List (Value × (Addr → Value → Option Addr → TS))} {tb : WX → TS} {u : TS} (h : tTryM K l tb Wout { D with nx := u D } σ H) : tSeq (tTryM K l tb Wout) u D σ H := h
/-- e.f of a caught exception -/
def xfK (a : Addr) (cls : Value) (d : Option Addr) (C : Addr) (f : Str) (Q : VK) : V → Hp → Prop := fun x H1 => x = .ref a ∧ cls = .ref C ∧ ∃ (dd : Addr) (fs : List (Str × V)) (v : V), d = some dd ∧ H1 dd = some (.xd fs) ∧ fs.lookup f = some v ∧ Q v H1
theorem x_xf {f : Str} {te : TE} (h : te σ H (xfK a cls d C f Q)) : tXf a cls d C f te σ H Q := h
/-! a class with an own __init__ -/
structure WInit (K : PySem.W.Frag) (W : Addr) : Prop where
  ga : PySem.W.specialIn K (.ref W) "__getattribute__" = some (some (.builtin "type.__getattribute__"))
  rd : PySem.W.readsIn K W (.type "type") = true
  fd : PySem.W.findCls K (.ref W) (.type "type") "__init__" = some (.val (.builtin "ValueError.__init__"))
theorem pe_weinit {pl : Sem Bool} {x : Str} {Wc : Addr} {e : Expr} {es : List Expr} {ta : TA} {p1 p2 pos : Pos} (w : WInit X.K Wc) (hg : Gl X x) (hm : X.mg x = some (.ref Wc)) (ha : PA X (e :: es) ta) (hdb : (x == ("__debug__" : Str)) = false := by decide)
    (hc : eval (.Call (.Attribute (.Name x p1) "__init__" p2) (e :: es) [] pos) X.env = (do
      let ov ← eval (.Name x p1) X.env
      standAt p2.atName
      let (f, first) ← holding [ov] (getMethod ov "__init__" pl)
      callWith pos f first (backTo pos (starEach (e :: es) X.env)) (backToKw pos (keywordEach [] X.env))) := by rfl)
    (he : starEach (e :: es) X.env = (false, eval e X.env) :: starEach es X.env := by rfl) (hpl : (backTo pos (starEach es X.env)).any (·.1) = false := by rfl) :
    PE X (.Call (.Attribute (.Name x p1) "__init__" p2) (e :: es) [] pos) (tVeI X.K ta) := by
  refine ⟨fun pins s σ H Q I h => ?_⟩
  refine PySem.W.methodCall_KW (ld_glob I hg hm ?_ hdb) hc
  refine PySem.W.method_cls I.kIn w.ga (PySem.W.cls_value I.kIn w.rd w.fd (by decide +kernel) ?_)
  show wpAny _ _ (callWith pos (Value.builtin "ValueError.__init__") [] (backTo pos (starEach (e :: es) X.env)) []) _ _ _
  refine PyProof.Rows.callWith_method1 (thn (ha.run pos pins _ σ H _ (I.tok _) h) fun us s1 ⟨vs, H1, I1, r1, a, C, ws, ev, hl, T, ea, q⟩ => ?_) he hpl
  subst ev
  cases r1 with
  | @cons _ u0 _ ur ra rw' =>
    obtain rfl : u0 = Value.ref a := ra
    have hlen : ur.length ≤ sizeLine := by
      rw [← Paired.length rw', sizeLine_eq]
      omega
    exact oinit_ok T I1 ea hlen fun s' J => ⟨.non, H1, J, rfl, q⟩
def veK (K : PySem.W.Frag) (Q : VK) : List V → Hp → Prop := fun vs H1 => ∃ (a C : Addr) (ws : List V), vs = .ref a :: ws ∧ ws.length ≤ 1000 ∧ OexC K C ∧ H1 a = some (exo a C none) ∧ Q .non H1
theorem x_vei {ta : TA} (h : ta σ H (veK K Q)) : tVeI K ta σ H Q := h
theorem x_veK {ws : List V} (o : OexC K C) (h : H a = some (exo a C none)) (q : Q .non H) (hl : ws.length ≤ 1000) : veK K Q (.ref a :: ws) H := ⟨a, C, ws, rfl, hl, o, h, q⟩
/-- self.f = v, the first one -/
theorem x_ost {f : Str} {to te : TE} (h : te σ H fun y H1 => to σ H1 fun x H2 => ∃ a C : Addr, x = .ref a ∧ OexC K C ∧ PySem.W.findIn K (.ref C) f = some none ∧
  ((H2 a = some (exo a C none) ∧ ∀ dx, H2 dx = none → dx ≠ a → D.nx σ (upd (upd H2 dx (exd dx [(f, y)])) a (exo a C (some dx)))) ∨
    ∃ (dx : Addr) (fs : List (Str × V)), H2 a = some (exo a C (some dx)) ∧ H2 dx = some (exd dx fs) ∧ fs.length ≤ 900 ∧ D.nx σ (upd H2 dx (exd dx ((f, y) :: fs))))) : tOst K f to te D σ H := h
/-- the spec of an exception's __init__ with one field f: what is left -/
def spXInit (K : PySem.W.Frag) (C : Addr) (f : Str) (A : V → Prop) : Sp := fun vs H Q _ => ∃ (a : Addr) (v : V), vs = [.ref a, v] ∧ A v ∧ OexC K C ∧ PySem.W.findIn K (.ref C) f = some none ∧ H a = some (exo a C none) ∧
  ∀ dx, H dx = none → dx ≠ a → Q .non (upd (upd H dx (exd dx [(f, v)])) a (exo a C (some dx)))
theorem passE0 : Passes (L2.CX X.prog X.w) X (fun _ _ _ => False) := fun _ _ _ _ _ _ _ h => by
  obtain ⟨_, _, _, _, _, _, _, _, _, _, _, _, z⟩ := h
  exact z.elim
def moK (C : Addr) (sp : Sp) (dvs : List V) (Q : XK) : List V → Hp → Prop := fun vs H1 => vs.length ≤ 1000 ∧ ∀ a, H1 a = none → sp (.ref a :: (vs ++ dvs)) (upd H1 a (exo a C none))
  (fun v H2 => v = .non ∧ ∃ (d : Addr) (fs : List (Str × V)), H2 a = some (exo a C (some d)) ∧ H2 d = some (exd d fs) ∧ H1 d = none ∧ Q (.ref C) (some d) (upd (del H2 a) d (.xd fs))) (fun _ _ _ => False)
theorem x_mkO {sp : Sp} {dvs : List V} {Q : XK} {ta : TA} (h : ta σ H (moK C sp dvs Q)) : tMkO C sp dvs ta σ H Q := h
theorem x_moK {f : Str} {v : V} {A : V → Prop} {Q : XK} (hv : A v) (q : ∀ d H1, H d = none → Same H H1 → H1 d = some (.xd [(f, v)]) → Q (.ref C) (some d) H1) (o : OexC K C) (n : PySem.W.findIn K (.ref C) f = some none) : moK C (spXInit K C f A) [] Q [v] H := by
  refine ⟨Nat.le_of_ble_eq_true rfl, fun a na => ⟨a, v, rfl, hv, o, n, upd_same, fun dx nd ne => ⟨rfl, dx, [(f, v)], upd_same, ?_, ?_, ?_⟩⟩⟩
  · rw [upd_ne ne, upd_same]
  · rw [upd_ne ne] at nd; exact nd
  · rw [upd_ne ne] at nd
    have e : upd (del (upd (upd (upd H a (exo a C none)) dx (exd dx [(f, v)])) a (exo a C (some dx))) a) dx (.xd [(f, v)]) = upd H dx (.xd [(f, v)]) := by
      funext b
      by_cases hb : b = dx
      · rw [hb, upd_same, upd_same]
      · rw [upd_ne hb, upd_ne hb]
        by_cases hba : b = a
        · rw [hba, del_same, na]
        · rw [del_ne hba, upd_ne hba, upd_ne hb, upd_ne hba]
    rw [e]
    exact q dx _ nd (same_upd nd) upd_same
end
/-! several except clauses, some of them with a name -/
section
variable {X : Cx}
/-- what a clause does with an exception at q: the slot of its name, if it has one, holds it -/
def inAs (o : Option Nat) (ts : Addr → Value → Option Addr → TS) (q : Addr) (cls : Value) (d : Option Addr) : TS := match o with
  | none => ts q cls d
  | some i => fun D σ H => ts q cls d { nx := fun σ' H' => D.nx (σ'.set i none) H', rt := D.rt, bk := fun σ' H' => D.bk (σ'.set i none) H', ct := fun σ' H' => D.ct (σ'.set i none) H' } (σ.set i (some (.ref q))) H
def wMix (K : PySem.W.Frag) (Wout : WX) (D : Ends) : List (Value × Option Nat × (Addr → Value → Option Addr → TS)) → WX
  | [] => Wout
  | (c, o, ts) :: r => fun cls d σ H => ∃ b, PySem.W.exmOne K cls c = some b ∧ (b = true → ∀ q, H q = none → inAs o ts q cls d D σ H) ∧ (b = false → wMix K Wout D r cls d σ H)
def tMix (K : PySem.W.Frag) (l : List (Value × Option Nat × (Addr → Value → Option Addr → TS))) (tb : WX → TS) (Wout : WX) : TS := fun D σ H => tb (wMix K Wout D l) D σ H
variable {K : PySem.W.Frag} {Wout : WX} {D : Ends} {σ : L2.St} {H : Hp} {cls c : Value} {d : Option Addr}
theorem x_mix {l : List (Value × Option Nat × (Addr → Value → Option Addr → TS))} {tb : WX → TS} (h : tb (wMix K Wout D l) D σ H) : tMix K l tb Wout D σ H := h
theorem x_seqMix {l : List (Value × Option Nat × (Addr → Value → Option Addr → TS))} {tb : WX → TS} {u : TS} (h : tMix K l tb Wout { D with nx := u D } σ H) : tSeq (tMix K l tb Wout) u D σ H := h
end
/-! list(reversed(x)), x a list -/
section
variable {X : Cx}
def tListRev (K : PySem.W.Frag) (te : TE) : TE := fun σ H Q => te σ H fun v H1 => ∃ (a : Addr) (xs : List V), v = .ref a ∧ SqL K H1 a xs ∧ ∀ q, H1 q = none → Q (.ref q) (upd H1 q (.lst xs.reverse))
def lrK (K : PySem.W.Frag) (Q : VK) : V → Hp → Prop := fun v H1 => ∃ (a : Addr) (xs : List V), v = .ref a ∧ SqL K H1 a xs ∧ ∀ q, H1 q = none → Q (.ref q) (upd H1 q (.lst xs.reverse))
theorem x_listRev {K : PySem.W.Frag} {te : TE} {σ : L2.St} {H : Hp} {Q : VK} (h : te σ H (lrK K Q)) : tListRev K te σ H Q := h
theorem x_lrK {K : PySem.W.Frag} {H : Hp} {a : Addr} {xs : List V} {Q : VK} (h : SqL K H a xs) (q : New H Q (.lst xs.reverse)) : lrK K Q (.ref a) H := ⟨a, xs, rfl, h, q.mk⟩
end
/-! sorted pairs of numbers -/
theorem perm_sorted_eq {α : Type} {r : α → α → Prop} (anti : ∀ a b, r a b → r b a → a = b) : ∀ {l m : List α}, l.Perm m → l.Pairwise r → m.Pairwise r → l = m
  | [], m, h, _, _ => (List.nil_perm.mp h).symm
  | a :: l, [], h, _, _ => absurd h.symm (by intro z; exact absurd (List.nil_perm.mp z) (by simp))
  | a :: l, b :: m, h, h1, h2 => by
    have h1' := List.pairwise_cons.mp h1
    have h2' := List.pairwise_cons.mp h2
    have e : a = b := by
      rcases List.mem_cons.mp (h.mem_iff.mp List.mem_cons_self) with e | e
      · exact e
      rcases List.mem_cons.mp (h.symm.mem_iff.mp List.mem_cons_self) with e2 | e2
      · exact e2.symm
      · exact anti a b (h1'.1 b e2) (h2'.1 a e)
    subst e
    rw [perm_sorted_eq anti (List.Perm.cons_inv h) h1'.2 h2'.2]
def leP (a b : Int × Int) : Bool := !SrtO.lexB b a
def sortP (l : List (Int × Int)) : List (Int × Int) := l.mergeSort leP
/-- a list of tuples of two numbers each -/
def PairL (H : Hp) (xs : List V) (l : List (Int × Int)) : Prop := xs.length = l.length ∧ ∀ (i : Nat) x e, xs[i]? = some x → l[i]? = some e → ∃ t, x = .ref t ∧ H t = some (.tup [.int e.1, .int e.2])
theorem PairL.mono {H H' : Hp} {xs : List V} {l : List (Int × Int)} (s : TupS H H') (h : PairL H xs l) : PairL H' xs l := ⟨h.1, fun i x e h1 h2 => by
  obtain ⟨t, q, h⟩ := h.2 i x e h1 h2
  exact ⟨t, q, s _ _ h⟩⟩
theorem PairL.nil {H : Hp} : PairL H [] [] := ⟨rfl, fun i x e h _ => by simp at h⟩
theorem PairL.snoc {H : Hp} {xs : List V} {l : List (Int × Int)} {v : V} {e : Int × Int} (h : PairL H xs l) (hv : ∃ t, v = .ref t ∧ H t = some (.tup [.int e.1, .int e.2])) : PairL H (xs ++ [v]) (l ++ [e]) := by
  refine ⟨by simp [h.1], fun i x y h1 h2 => ?_⟩
  by_cases hi : i < xs.length
  · rw [List.getElem?_append_left hi] at h1
    rw [List.getElem?_append_left (h.1 ▸ hi)] at h2
    exact h.2 i x y h1 h2
  · have e1 : i = xs.length := by
      have := (List.getElem?_eq_some_iff.mp h1).1
      simp at this
      omega
    subst e1
    rw [List.getElem?_append_right (Nat.le_refl _)] at h1
    rw [h.1, List.getElem?_append_right (Nat.le_refl _)] at h2
    simp at h1 h2
    subst h1 h2
    exact hv
def pairV (H : Hp) : V → Int × Int
  | .ref t => match H t with
    | some (.tup [.int i, .int j]) => (i, j)
    | _ => (0, 0)
  | _ => (0, 0)
theorem pairV_ref {H : Hp} {t : Addr} {i j : Int} (h : H t = some (.tup [.int i, .int j])) : pairV H (.ref t) = (i, j) := by
  unfold pairV
  simp only [h]
theorem PairL.map {H : Hp} {xs : List V} {l : List (Int × Int)} (h : PairL H xs l) : xs.map (pairV H) = l := by
  refine List.ext_getElem? fun i => ?_
  rw [List.getElem?_map]
  cases e1 : xs[i]? with
  | none =>
    have := h.1
    rw [List.getElem?_eq_none_iff] at e1
    rw [List.getElem?_eq_none (by omega)]
    rfl
  | some x =>
    have hl := (List.getElem?_eq_some_iff.mp e1).1
    obtain ⟨e, e2⟩ : ∃ e, l[i]? = some e := ⟨_, List.getElem?_eq_getElem (by have := h.1; omega)⟩
    obtain ⟨t, rfl, ht⟩ := h.2 i x e e1 e2
    rw [e2, Option.map_some, pairV_ref ht]
theorem PairL.mem {H : Hp} {xs : List V} {l : List (Int × Int)} (h : PairL H xs l) {x : V} (hx : x ∈ xs) : ∃ t, x = .ref t ∧ H t = some (.tup [.int (pairV H x).1, .int (pairV H x).2]) := by
  obtain ⟨i, e1⟩ := List.mem_iff_getElem?.mp hx
  have hl := (List.getElem?_eq_some_iff.mp e1).1
  obtain ⟨e, e2⟩ : ∃ e, l[i]? = some e := ⟨_, List.getElem?_eq_getElem (by have := h.1; omega)⟩
  obtain ⟨t, rfl, ht⟩ := h.2 i x e e1 e2
  exact ⟨t, rfl, by rw [pairV_ref ht]; exact ht⟩
/-! sorted tuples of whole numbers, fewer than 64 -/
theorem code_cons {B d e : Int} {r q : List Int} (hl : r.length = q.length) (h1 : TS.Bd B (d :: r)) (h2 : TS.Bd B (e :: q)) (h : TS.code B (d :: r) ≤ TS.code B (e :: q)) : d < e ∨ (d = e ∧ TS.code B r ≤ TS.code B q) := by
  rcases Int.lt_trichotomy d e with z | z | z
  · exact .inl z
  · refine .inr ⟨z, ?_⟩
    subst z
    by_cases y : TS.code B q < TS.code B r
    · have := (TS.code_same (B := B) (d := d) (r := q) (q := r) hl.symm).mpr y
      omega
    · exact Int.not_lt.mp y
  · have := TS.code_lt (B := B) hl.symm h2.tail h1.tail z
    omega
/-- a list of tuples of whole numbers -/
def TupL (H : Hp) (xs : List V) (ls : List (List Int)) : Prop := xs.length = ls.length ∧ ∀ (i : Nat) x e, xs[i]? = some x → ls[i]? = some e → ∃ t, x = .ref t ∧ H t = some (.tup (e.map V.int))
theorem TupL.mono {H H' : Hp} {xs : List V} {l : List (List Int)} (s : TupS H H') (h : TupL H xs l) : TupL H' xs l := ⟨h.1, fun i x e h1 h2 => by
  obtain ⟨t, q, h⟩ := h.2 i x e h1 h2
  exact ⟨t, q, s _ _ h⟩⟩
theorem TupL.nil {H : Hp} : TupL H [] [] := ⟨rfl, fun i x e h _ => by simp at h⟩
theorem TupL.snoc {H : Hp} {xs : List V} {l : List (List Int)} {v : V} {e : List Int} (h : TupL H xs l) (hv : ∃ t, v = .ref t ∧ H t = some (.tup (e.map V.int))) : TupL H (xs ++ [v]) (l ++ [e]) := by
  refine ⟨by simp [h.1], fun i x y h1 h2 => ?_⟩
  by_cases hi : i < xs.length
  · rw [List.getElem?_append_left hi] at h1
    rw [List.getElem?_append_left (h.1 ▸ hi)] at h2
    exact h.2 i x y h1 h2
  · have e1 : i = xs.length := by
      have := (List.getElem?_eq_some_iff.mp h1).1
      simp at this
      omega
    subst e1
    rw [List.getElem?_append_right (Nat.le_refl _)] at h1
    rw [h.1, List.getElem?_append_right (Nat.le_refl _)] at h2
    simp at h1 h2
    subst h1 h2
    exact hv
theorem TupL.take {H : Hp} {ws : List V} {is : List (List Int)} (h : TupL H ws is) (m : Nat) : TupL H (ws.take m) (is.take m) := ⟨by rw [List.length_take, List.length_take, h.1], fun i x e h1 h2 => by
  rw [List.getElem?_take] at h1 h2
  split at h1
  · rename_i hi
    rw [if_pos hi] at h2
    exact h.2 i x e h1 h2
  · cases h1⟩
def vInt : V → Int
  | .int n => n
  | _ => 0
theorem vInt_map (e : List Int) : (e.map V.int).map vInt = e := by
  rw [List.map_map]
  exact List.map_id'' (fun _ => rfl) e
def tupV (H : Hp) : V → List Int
  | .ref t => match H t with
    | some (.tup vs) => vs.map vInt
    | _ => []
  | _ => []
theorem tupV_ref {H : Hp} {t : Addr} {e : List Int} (h : H t = some (.tup (e.map V.int))) : tupV H (.ref t) = e := by
  unfold tupV
  simp only [h]
  exact vInt_map e
theorem TupL.get {H : Hp} {xs : List V} {l : List (List Int)} (h : TupL H xs l) {i : Nat} {x : V} (hi : xs[i]? = some x) : ∃ e t, l[i]? = some e ∧ x = .ref t ∧ H t = some (.tup (e.map V.int)) := by
  have hl := (List.getElem?_eq_some_iff.mp hi).1
  obtain ⟨e, e2⟩ : ∃ e, l[i]? = some e := ⟨_, List.getElem?_eq_getElem (by have := h.1; omega)⟩
  obtain ⟨t, rfl, ht⟩ := h.2 i x e hi e2
  exact ⟨e, t, e2, rfl, ht⟩
theorem TupL.map {H : Hp} {xs : List V} {l : List (List Int)} (h : TupL H xs l) : xs.map (tupV H) = l := by
  refine List.ext_getElem? fun i => ?_
  rw [List.getElem?_map]
  cases e1 : xs[i]? with
  | none =>
    have := h.1
    rw [List.getElem?_eq_none_iff] at e1
    rw [List.getElem?_eq_none (by omega)]
    rfl
  | some x =>
    obtain ⟨e, t, e2, rfl, ht⟩ := h.get e1
    rw [e2, Option.map_some, tupV_ref ht]
theorem TupL.mem {H : Hp} {xs : List V} {l : List (List Int)} (h : TupL H xs l) {x : V} (hx : x ∈ xs) : tupV H x ∈ l ∧ ∃ t, x = .ref t ∧ H t = some (.tup ((tupV H x).map V.int)) := by
  obtain ⟨i, e1⟩ := List.mem_iff_getElem?.mp hx
  obtain ⟨e, t, e2, rfl, ht⟩ := h.get e1
  rw [tupV_ref ht]
  exact ⟨List.mem_of_getElem? e2, t, rfl, ht⟩
theorem x_sortT {K : PySem.W.Frag} {H : Hp} {a : Addr} {xs : List V} {ls : List (List Int)} {d : Nat} {B : Int} {Q : VK} (h : SqL K H a xs) (hx : TupL H xs ls) (hn : ls.length < 64) (hb : ∀ e ∈ ls, e.length = d ∧ TS.Bd B e)
    (q : ∀ p ys ls' H', H p = none → Same H H' → H' p = some (.lst ys) → TupL H' ys ls' → ls'.Perm ls → ls'.Pairwise (fun a b => TS.code B a ≤ TS.code B b) → Q (.ref p) H') : rSortU K d B [.ref a] H Q := by
  have tu : ∀ x ∈ xs, TupI K H x (tupV H x) := fun x hm => by
    obtain ⟨_, t, e, ht⟩ := hx.mem hm
    exact ⟨t, e, SqT.of ht⟩
  refine ⟨a, xs, rfl, h, by rw [hx.1]; exact hn, fun x hm => ?_, fun ys p hp hs hpn => ?_⟩
  · obtain ⟨hi, t, e, ht⟩ := hx.mem hm
    exact ⟨tupV H x, ⟨t, e, SqT.of ht⟩, hb _ hi⟩
  · refine q p ys (ys.map (tupV H)) _ hpn (same_upd hpn) upd_same ⟨by rw [List.length_map], fun i x e h1 h2 => ?_⟩ ?_ ?_
    · rw [List.getElem?_map, h1] at h2
      simp at h2
      subst h2
      obtain ⟨_, t, e1, ht⟩ := hx.mem (hp.mem_iff.mp (List.mem_of_getElem? h1))
      exact ⟨t, e1, same_upd hpn _ _ ht⟩
    · rw [← hx.map]
      exact hp.map _
    · refine List.pairwise_map.mpr (List.Pairwise.imp_of_mem (fun {x y} hx' hy' z => ?_) hs)
      exact z _ _ (tu x (hp.mem_iff.mp hx')) (tu y (hp.mem_iff.mp hy'))
/-- sorted(d), d a dict of fewer than 64 numbers -/
def rSDI : List V → Hp → VK → Prop := fun xs H Q => ∃ (a : Addr) (kvs : List (L2.Key × V)) (ks : List Int), xs = [.ref a] ∧ Rd H a (.dK kvs) ∧ kvs.map (·.1) = ks.map Sum.inl ∧ ks.length < 64 ∧
    ∀ (ys : List Int) (p : Addr), ys.Perm ks → ys.Pairwise (· ≤ ·) → H p = none → Q (.ref p) (upd H p (.lst (ys.map V.int)))
def uSorted (K : PySem.W.Frag) : List V → Hp → VK → Prop := fun xs H Q => rSorted K xs H Q ∨ (rSortedPO K xs H Q ∨ (rSortedI K xs H Q ∨ rSDI xs H Q))
theorem cr_usorted {X : Cx} (hc : X.calm = true := by rfl) : CallR X (.builtin "sorted") (uSorted X.K) := cr_sorted.or (cr_sortedPO.or (cr_sortedI.or (call_sortedDI hc)))
/-! sorted numbers -/
def sortZ (l : List Int) : List Int := l.mergeSort fun a b => decide (a ≤ b)
theorem sortZ_pw (l : List Int) : (sortZ l).Pairwise (· ≤ ·) :=
  (List.pairwise_mergeSort (le := fun a b : Int => decide (a ≤ b)) (fun a b c h1 h2 => by simp only [decide_eq_true_eq] at h1 h2 ⊢; omega) (fun a b => by
    simp only [Bool.or_eq_true, decide_eq_true_eq]; omega) l).imp fun h => of_decide_eq_true h
theorem sortZ_perm (l : List Int) : (sortZ l).Perm l := List.mergeSort_perm l _
theorem sortZ_eq {ys l : List Int} (hp : ys.Perm l) (hs : ys.Pairwise (· ≤ ·)) : ys = sortZ l :=
  perm_sorted_eq (fun a b h1 h2 => Int.le_antisymm h1 h2) (hp.trans (sortZ_perm l).symm) hs (sortZ_pw l)
theorem x_sortI {K : PySem.W.Frag} {H : Hp} {a : Addr} {ns : List Int} {Q : VK} (h : SqL K H a (ns.map V.int)) (q : ∀ p H', H p = none → Same H H' → H' p = some (.lst ((sortZ ns).map V.int)) → Q (.ref p) H') : uSorted K [.ref a] H Q :=
  .inr (.inr (.inl ⟨a, ns, rfl, h, fun ys p hp hs hn => by rw [sortZ_eq hp hs]; exact q p _ hn (same_upd hn) upd_same⟩))
theorem x_sortD {K : PySem.W.Frag} {H : Hp} {a : Addr} {kvs : List (L2.Key × V)} {ks : List Int} {Q : VK} (h : H a = some (.dK kvs)) (hk : kvs.map (·.1) = ks.map Sum.inl) (hl : ks.length < 64) (q : ∀ p H', H p = none → Same H H' → H' p = some (.lst ((sortZ ks).map V.int)) → Q (.ref p) H') : uSorted K [.ref a] H Q :=
  .inr (.inr (.inr ⟨a, kvs, ks, rfl, .inl h, hk, hl, fun ys p hp hs hn => by rw [sortZ_eq hp hs]; exact q p _ hn (same_upd hn) upd_same⟩))
/-! a comprehension over the keys of a dict -/
section
variable {σ : L2.St} {H : Hp} {g : TG} {tt : TT} {te td : TE} {vs : List Nat} {a : Addr} {Q : VK} {kvs : List (L2.Key × V)} {od : Obj}
def lcKy (g : TG) (tt : TT) (te : TE) (vs : List Nat) (σ : L2.St) (Q : VK) : V → Hp → Prop := fun x H1 => ∃ d o, x = .ref d ∧ ((∃ kvs, H1 d = some (.frz o (.dK kvs)) ∧ lcK (Itk d o kvs) g tt te vs σ Q H1) ∨ ∃ kvs, H1 d = some (.frz o (.dT kvs)) ∧ lcK (Itkt d o kvs) g tt te vs σ Q H1)
theorem x_lcKyK (hq : H a = some (.frz od (.dK kvs))) (A : Nat → List V → Hp → Prop) (hA : ∀ i acc H H', TupS H H' → A i acc H → A i acc H') (hn : kvs.length < sizeLine) (h0 : A 0 [] H)
    (hs : ∀ i k v acc H', kvs[i]? = some (k, v) → Same H H' → A i acc H' → LcTurn g tt te vs σ A i (kV k) acc H')
    (hd : ∀ p acc H', H p = none → Same H H' → H' p = some (.lst acc) → A kvs.length acc H' → Q (.ref p) H') : lcKy g tt te vs σ Q (.ref a) H :=
  ⟨a, od, rfl, .inl ⟨kvs, hq, lc_gen (fun i x => ∃ k v, kvs[i]? = some (k, v) ∧ x = kV k) A hA hn h0 (fun Pv Dr hP p0 ht hd => lc_it walk_keys Pv p0 (fun i H' _ p => hP i H' p _ _ hq) (fun i x H' H'' hi p y => by
    obtain ⟨rfl, k, v, e, rfl⟩ := y
    exact ht i _ _ ⟨k, v, e, rfl⟩ p) hd) (fun i x acc H' ⟨k, v, e, hx⟩ s ha => by rw [hx]; exact hs i k v acc H' e s ha) (fun i x ⟨k, v, e, _⟩ => (List.getElem?_eq_some_iff.mp e).1) hd⟩⟩
theorem x_lcDK (h : H a = some (.dK kvs)) (htd : ∀ (od : Obj) (Q' : VK), Q' (.ref a) (upd H a (.frz od (.dK kvs))) → td σ (upd H a (.frz od (.dK kvs))) Q') (A : Nat → List V → Hp → Prop) (hA : ∀ i acc H H', TupS H H' → A i acc H → A i acc H') (hn : kvs.length < sizeLine) (h0 : A 0 [] H)
    (hs : ∀ i k v acc H', kvs[i]? = some (k, v) → Off [a] H H' → (∃ od, H' a = some (.frz od (.dK kvs))) → A i acc H' → LcTurn g tt te vs σ A i (kV k) acc H')
    (hd : ∀ p acc H', H p = none → Same H H' → H' p = some (.lst acc) → A kvs.length acc H' → Q (.ref p) H') : tLockE (tLc (iKeys td) g tt te vs) σ H Q := by
  refine ⟨a, .dK kvs, h, trivial, fun od => htd od _ ?_⟩
  have tu : TupS H (upd H a (.frz od (.dK kvs))) := TupS.upd h (fun _ z => by cases z)
  have key := x_lcKyK (g := g) (tt := tt) (te := te) (vs := vs) (σ := σ) (Q := fun v H' => H' a = some (.frz od (.dK kvs)) ∧ Q v (upd H' a (.dK kvs))) (H := upd H a (.frz od (.dK kvs))) (od := od) upd_same A hA hn (hA _ _ _ _ tu h0) (fun i k v acc H' e s ha => hs i k v acc H' e (fun b o nb eb => s b o (by rw [upd_ne (fun z => nb (by rw [z]; exact List.mem_singleton.mpr rfl))]; exact eb)) ⟨od, s _ _ upd_same⟩ ha) (fun p acc H' hp s hn ha => by
  refine ⟨s _ _ upd_same, ?_⟩
  have hpa : p ≠ a := fun z => by
    rw [z, upd_same] at hp
    cases hp
  rw [upd_ne hpa] at hp
  refine hd p acc _ hp (fun b o e => ?_) (by rw [upd_ne hpa]; exact hn) (hA _ _ _ _ (TupS.upd (s _ _ upd_same) (fun _ z => by cases z)) ha)
  by_cases hb : b = a
  · rw [hb, h] at e
    rw [hb, upd_same]
    exact e
  · rw [upd_ne hb]
    exact s b o (by rw [upd_ne hb]; exact e))
  exact key
end
/-! a loop over the values of a dict, which is locked meanwhile -/
/-! min of a list of pairs of numbers -/
section
variable {prog : Program} {w : World} {A : Around} {R : Result → Shared → Prop} {I : Addr} {fp wr : List Addr} {n : Nat} {P : Nat → Value → Prop} {St : Nat → Heap → Prop}
/-- what stays but for the walk's own and the list at S -/
def KeepsB (wr : List Addr) (S : Addr) (h0 h : Heap) : Prop := ∀ b o, b ∉ wr → b ≠ S → h0.get? b = some o → h.get? b = some o
theorem KeepsB.put {S : Addr} {h0 h : Heap} {f : Obj → Obj} (a : KeepsB wr S h0 h) : KeepsB wr S h0 (h.update S f) := fun b o n1 n2 e => (Heap.get?_update_other _ _ (Ne.symm n2)).trans (a b o n1 n2 e)
end
/-! ### built-in calls -/
section
variable {X : Cx}
def uMax (K : PySem.W.Frag) : List V → Hp → VK → Prop := fun xs H Q => (∃ i j, xs = [.int i, .int j] ∧ Q (.int (if j > i then j else i)) H) ∨ rMax K xs H Q
def uMin (K : PySem.W.Frag) : List V → Hp → VK → Prop := fun xs H Q => (∃ i j, xs = [.int i, .int j] ∧ Q (.int (if j < i then j else i)) H) ∨ rMin K xs H Q
theorem cr_umin (hc : X.calm = true := by rfl) : CallR X (.builtin "min") (uMin X.K) := (call_min2 hc).or (cr_min hc)
def uList (K : PySem.W.Frag) : List V → Hp → VK → Prop := fun xs H Q => (∃ p ys, xs = [.ref p] ∧ (SqL K H p ys ∨ SqT K H p ys) ∧ ∀ l, H l = none → Q (.ref l) (upd H l (.lst ys))) ∨ rListD xs H Q
theorem ct_list (hc : X.calm = true := by rfl) : CallR X (.type "list") (uList X.K) := call_list_of.or (call_list_dK hc)
def uTup (K : PySem.W.Frag) : List V → Hp → VK → Prop := fun xs H Q => ∃ x, xs = [x] ∧ kTup K x H Q
def uInt : List V → Hp → VK → Prop := fun xs H Q => (∃ i, xs = [.int i] ∧ Q (.int i) H) ∨ ∃ k, xs = [.bl k] ∧ Q (.int (if k then 1 else 0)) H
theorem bt_min : bootBuiltins "min" = some (.builtin "min") := by decide +kernel
theorem bt_sorted : bootBuiltins "sorted" = some (.builtin "sorted") := by decide +kernel
def uLen (K : PySem.W.Frag) : List V → Hp → VK → Prop := fun xs H Q => (∃ p ys, xs = [.ref p] ∧ (SqL K H p ys ∨ SqT K H p ys) ∧ Q (.int ys.length) H) ∨ ((∃ z, xs = [.str z] ∧ z.length ≤ sizeLine ∧ Q (.int z.length) H) ∨ (∃ a kvs, xs = [V.ref a] ∧ H a = some (.dK kvs) ∧ Q (.int kvs.length) H))
theorem cr_ulen : CallR X (.builtin "len") (uLen X.K) := call_len_seq.or (call_len_str.or call_lenD)
def uIsi (K : PySem.W.Frag) : List V → Hp → VK → Prop := rIsi K
theorem cr_uisinstance : CallR X (.builtin "isinstance") (uIsi X.K) := call_isi
def uStr : List V → Hp → VK → Prop := fun xs H Q => ∃ i, xs = [.int i] ∧ i.natAbs.log2 < 1920 ∧ Q (.str (toString i)) H
theorem ct_str : CallR X (.type "str") uStr := call_str_int
theorem bt_isinstance : bootBuiltins "isinstance" = some (.builtin "isinstance") := by decide +kernel
theorem bt_int : bootBuiltins "int" = some (.type "int") := by decide +kernel
theorem bt_bool : bootBuiltins "bool" = some (.type "bool") := by decide +kernel
theorem bt_str : bootBuiltins "str" = some (.type "str") := by decide +kernel
theorem bt_list : bootBuiltins "list" = some (.type "list") := by decide +kernel
theorem bt_len : bootBuiltins "len" = some (.builtin "len") := by decide +kernel
end
section
variable {σ : L2.St} {H : Hp} {K : PySem.W.Frag} {Q : VK} {p : Addr} {xs : List V} {n : Int} {v : V}
theorem x_lenL (h : SqL K H p xs) (q : Q (.int xs.length) H) : uLen K [.ref p] H Q := .inl ⟨p, xs, rfl, .inl h, q⟩
theorem x_lenM {α : Type} {l : List α} {f : α → V} (h : SqL K H p (l.map f)) (q : Q (.int l.length) H) : uLen K [.ref p] H Q := .inl ⟨p, _, rfl, .inl h, by rw [List.length_map]; exact q⟩
theorem x_lenT (h : SqT K H p xs) (q : Q (.int xs.length) H) : uLen K [.ref p] H Q := .inl ⟨p, xs, rfl, .inr h, q⟩
/-- the built-in class of a value -/
def tyN : V → Option String
  | .non => some "NoneType" | .bl _ => some "bool" | .int _ => some "int" | .str _ => some "str" | .flt _ => some "float" | _ => none
theorem x_isiV {c : String} {t : String} {b : Bool} (ht : tyN v = some t) (hk : kitB t c = some b) (q : Q (.bl b) H) : uIsi K [v, .ty c] H Q := by
  have ty : TyX K H v (.type t) := by
    cases v <;> simp only [tyN, Option.some.injEq, reduceCtorEq] at ht <;> subst ht
    · exact .base .non
    · exact .base (.bl _)
    · exact .base (.int _)
    · exact .base (.str _)
    · exact .base (.flt _)
  exact ⟨v, .ty c, .type t, .type c, b, rfl, .ty c, ty, kit_ty hk, q⟩
theorem x_isiR {c t : String} {b : Bool} (ty : TyX K H (.ref p) (.type t)) (hk : kitB t c = some b) (q : Q (.bl b) H) : uIsi K [.ref p, .ty c] H Q :=
  ⟨.ref p, .ty c, .type t, .type c, b, rfl, .ty c, ty, kit_ty hk, q⟩
theorem x_isiNon_int (q : Q (.bl false) H) : uIsi K [V.non, .ty "int"] H Q := x_isiV rfl (by decide +kernel) q
theorem x_isiNon_bool (q : Q (.bl false) H) : uIsi K [V.non, .ty "bool"] H Q := x_isiV rfl (by decide +kernel) q
theorem x_isiNon_str (q : Q (.bl false) H) : uIsi K [V.non, .ty "str"] H Q := x_isiV rfl (by decide +kernel) q
theorem x_isiNon_list (q : Q (.bl false) H) : uIsi K [V.non, .ty "list"] H Q := x_isiV rfl (by decide +kernel) q
theorem x_isiNon_tuple (q : Q (.bl false) H) : uIsi K [V.non, .ty "tuple"] H Q := x_isiV rfl (by decide +kernel) q
theorem x_isiNon_dict (q : Q (.bl false) H) : uIsi K [V.non, .ty "dict"] H Q := x_isiV rfl (by decide +kernel) q
theorem x_isiBl_int {b : Bool} (q : Q (.bl true) H) : uIsi K [(V.bl b), .ty "int"] H Q := x_isiV rfl (by decide +kernel) q
theorem x_isiBl_bool {b : Bool} (q : Q (.bl true) H) : uIsi K [(V.bl b), .ty "bool"] H Q := x_isiV rfl (by decide +kernel) q
theorem x_isiBl_str {b : Bool} (q : Q (.bl false) H) : uIsi K [(V.bl b), .ty "str"] H Q := x_isiV rfl (by decide +kernel) q
theorem x_isiBl_list {b : Bool} (q : Q (.bl false) H) : uIsi K [(V.bl b), .ty "list"] H Q := x_isiV rfl (by decide +kernel) q
theorem x_isiBl_tuple {b : Bool} (q : Q (.bl false) H) : uIsi K [(V.bl b), .ty "tuple"] H Q := x_isiV rfl (by decide +kernel) q
theorem x_isiBl_dict {b : Bool} (q : Q (.bl false) H) : uIsi K [(V.bl b), .ty "dict"] H Q := x_isiV rfl (by decide +kernel) q
theorem x_isiInt_int (q : Q (.bl true) H) : uIsi K [(V.int n), .ty "int"] H Q := x_isiV rfl (by decide +kernel) q
theorem x_isiInt_bool (q : Q (.bl false) H) : uIsi K [(V.int n), .ty "bool"] H Q := x_isiV rfl (by decide +kernel) q
theorem x_isiInt_str (q : Q (.bl false) H) : uIsi K [(V.int n), .ty "str"] H Q := x_isiV rfl (by decide +kernel) q
theorem x_isiInt_list (q : Q (.bl false) H) : uIsi K [(V.int n), .ty "list"] H Q := x_isiV rfl (by decide +kernel) q
theorem x_isiInt_tuple (q : Q (.bl false) H) : uIsi K [(V.int n), .ty "tuple"] H Q := x_isiV rfl (by decide +kernel) q
theorem x_isiInt_dict (q : Q (.bl false) H) : uIsi K [(V.int n), .ty "dict"] H Q := x_isiV rfl (by decide +kernel) q
theorem x_isiStr_int {z : Str} (q : Q (.bl false) H) : uIsi K [(V.str z), .ty "int"] H Q := x_isiV rfl (by decide +kernel) q
theorem x_isiStr_bool {z : Str} (q : Q (.bl false) H) : uIsi K [(V.str z), .ty "bool"] H Q := x_isiV rfl (by decide +kernel) q
theorem x_isiStr_str {z : Str} (q : Q (.bl true) H) : uIsi K [(V.str z), .ty "str"] H Q := x_isiV rfl (by decide +kernel) q
theorem x_isiStr_list {z : Str} (q : Q (.bl false) H) : uIsi K [(V.str z), .ty "list"] H Q := x_isiV rfl (by decide +kernel) q
theorem x_isiStr_tuple {z : Str} (q : Q (.bl false) H) : uIsi K [(V.str z), .ty "tuple"] H Q := x_isiV rfl (by decide +kernel) q
theorem x_isiStr_dict {z : Str} (q : Q (.bl false) H) : uIsi K [(V.str z), .ty "dict"] H Q := x_isiV rfl (by decide +kernel) q
theorem x_isiLst_int (h : H p = some (.lst xs)) (q : Q (.bl false) H) : uIsi K [.ref p, .ty "int"] H Q := x_isiR (.base (.lst h)) (by decide +kernel) q
theorem x_isiLst_bool (h : H p = some (.lst xs)) (q : Q (.bl false) H) : uIsi K [.ref p, .ty "bool"] H Q := x_isiR (.base (.lst h)) (by decide +kernel) q
theorem x_isiLst_str (h : H p = some (.lst xs)) (q : Q (.bl false) H) : uIsi K [.ref p, .ty "str"] H Q := x_isiR (.base (.lst h)) (by decide +kernel) q
theorem x_isiLst_list (h : H p = some (.lst xs)) (q : Q (.bl true) H) : uIsi K [.ref p, .ty "list"] H Q := x_isiR (.base (.lst h)) (by decide +kernel) q
theorem x_isiLst_tuple (h : H p = some (.lst xs)) (q : Q (.bl false) H) : uIsi K [.ref p, .ty "tuple"] H Q := x_isiR (.base (.lst h)) (by decide +kernel) q
theorem x_isiLst_dict (h : H p = some (.lst xs)) (q : Q (.bl false) H) : uIsi K [.ref p, .ty "dict"] H Q := x_isiR (.base (.lst h)) (by decide +kernel) q
theorem x_isiTup_int (h : H p = some (.tup xs)) (q : Q (.bl false) H) : uIsi K [.ref p, .ty "int"] H Q := x_isiR (.base (.tup h)) (by decide +kernel) q
theorem x_isiTup_bool (h : H p = some (.tup xs)) (q : Q (.bl false) H) : uIsi K [.ref p, .ty "bool"] H Q := x_isiR (.base (.tup h)) (by decide +kernel) q
theorem x_isiTup_str (h : H p = some (.tup xs)) (q : Q (.bl false) H) : uIsi K [.ref p, .ty "str"] H Q := x_isiR (.base (.tup h)) (by decide +kernel) q
theorem x_isiTup_list (h : H p = some (.tup xs)) (q : Q (.bl false) H) : uIsi K [.ref p, .ty "list"] H Q := x_isiR (.base (.tup h)) (by decide +kernel) q
theorem x_isiTup_tuple (h : H p = some (.tup xs)) (q : Q (.bl true) H) : uIsi K [.ref p, .ty "tuple"] H Q := x_isiR (.base (.tup h)) (by decide +kernel) q
theorem x_isiTup_dict (h : H p = some (.tup xs)) (q : Q (.bl false) H) : uIsi K [.ref p, .ty "dict"] H Q := x_isiR (.base (.tup h)) (by decide +kernel) q
theorem x_isiDk_int {kvs : List (Key × V)} (h : H p = some (.dK kvs)) (q : Q (.bl false) H) : uIsi K [.ref p, .ty "int"] H Q := x_isiR (.base (.dK h)) (by decide +kernel) q
theorem x_isiDk_bool {kvs : List (Key × V)} (h : H p = some (.dK kvs)) (q : Q (.bl false) H) : uIsi K [.ref p, .ty "bool"] H Q := x_isiR (.base (.dK h)) (by decide +kernel) q
theorem x_isiDk_str {kvs : List (Key × V)} (h : H p = some (.dK kvs)) (q : Q (.bl false) H) : uIsi K [.ref p, .ty "str"] H Q := x_isiR (.base (.dK h)) (by decide +kernel) q
theorem x_isiDk_list {kvs : List (Key × V)} (h : H p = some (.dK kvs)) (q : Q (.bl false) H) : uIsi K [.ref p, .ty "list"] H Q := x_isiR (.base (.dK h)) (by decide +kernel) q
theorem x_isiDk_tuple {kvs : List (Key × V)} (h : H p = some (.dK kvs)) (q : Q (.bl false) H) : uIsi K [.ref p, .ty "tuple"] H Q := x_isiR (.base (.dK h)) (by decide +kernel) q
theorem x_isiDk_dict {kvs : List (Key × V)} (h : H p = some (.dK kvs)) (q : Q (.bl true) H) : uIsi K [.ref p, .ty "dict"] H Q := x_isiR (.base (.dK h)) (by decide +kernel) q
theorem x_intB {b : Bool} (q : Q (.int (if b then 1 else 0)) H) : uInt [.bl b] H Q := .inr ⟨b, rfl, q⟩
theorem x_intI {m : Int} (q : Q (.int m) H) : uInt [.int m] H Q := .inl ⟨m, rfl, q⟩
theorem x_max2 {m n : Int} (q : Q (.int (if n > m then n else m)) H) : uMax K [.int m, .int n] H Q := .inl ⟨m, n, rfl, q⟩
theorem x_min2 {m n : Int} (q : Q (.int (if n < m then n else m)) H) : uMin K [.int m, .int n] H Q := .inl ⟨m, n, rfl, q⟩
theorem x_list (h : SqL K H p xs) (q : New H Q (.lst xs)) : uList K [.ref p] H Q := .inl ⟨p, xs, rfl, .inl h, q.mk⟩
theorem x_tupL (h : SqL K H p xs) (q : New H Q (.tup xs)) : uTup K [.ref p] H Q := ⟨_, rfl, .inl ⟨p, xs, rfl, h, q.mk⟩⟩
theorem x_listD {kvs : List (L2.Key × V)} (h : H p = some (.dK kvs)) (q : New H Q (.lst (kvs.map fun kv => kV kv.1))) : uList K [.ref p] H Q := .inr ⟨p, kvs, rfl, h, q.mk⟩
theorem x_lenD {kvs : List (L2.Key × V)} (h : H p = some (.dK kvs)) (q : Q (.int kvs.length) H) : uLen K [.ref p] H Q := .inr (.inr ⟨p, kvs, rfl, h, q⟩)
theorem x_str (q : Q (.str (toString n)) H) (h : n.natAbs.log2 < 1920) : uStr [.int n] H Q := ⟨n, rfl, h, q⟩
end
/-! ### the same rules where K is told (inside a comprehension) -/
section
variable {X : Cx} {K : PySem.W.Frag} {a b e : Expr} {rest : List Expr} {ta tb : TE} {pos : Pos} {f : Str}
theorem K_ix (hK : X.K = K := by rfl) : IxR X (rIx K) := hK ▸ ix_seq
theorem K_ne (hu : X.A.units + 64 < cLine) (hK : X.K = K := by rfl) : OpR X (compareOp .NotEq) (uNe K) := hK ▸ op_uNe hu
end
/-! sorted(d.items()), d a dict from whole numbers to whole numbers -/
/-! ### min(xs, default=d), max(xs, default=d); Base.__init__(self, ..) -/
/-! isinstance(x, C) of an own instance -/
/-! ### a caught exception as an object that is tracked -/
section
/-- the object at a is oe -/
def PinO (a : Addr) (oe : Obj) : HO := .ext fun h => h.get? a = some oe
/-- an exception of the class cls, its own dict at d -/
def ExV (H : Hp) (a : Addr) (cls : Value) (d : Option Addr) : Prop := ∃ oe, H a = some (PinO a oe) ∧ Zc cls d oe ∧ ∃ vs, oe.data = .fields vs
theorem ExV.mono {H H' : Hp} {a : Addr} {cls : Value} {d : Option Addr} (s : Same H H') (h : ExV H a cls d) : ExV H' a cls d := by
  obtain ⟨oe, e, r⟩ := h
  exact ⟨oe, s _ _ e, r⟩
variable {X : Cx} {pins : List (Addr × Obj)} {σ : L2.St} {H : Hp} {s sI : Shared}
end
section
variable {X : Cx} {x n : Str} {c : Value} {i : Nat} {body suite : List Stmt} {b₀ : Stmt} {np pos pos' : Pos} {tb : WX → TS} {ts : TS} {Wout : WX}
def wAsK (K : PySem.W.Frag) (c : Value) (i : Nat) (ts : TS) (Wout : WX) (D : Ends) : WX := fun cls d σ H =>
  ∃ b, PySem.W.exmOne K cls c = some b ∧ (b = true → ∀ a oe, H a = none → Zc cls d oe → (∃ vs, oe.data = .fields vs) → ts { nx := fun σ' H' => D.nx (σ'.set i none) H', rt := D.rt, bk := fun σ' H' => D.bk (σ'.set i none) H', ct := fun σ' H' => D.ct (σ'.set i none) H' } (σ.set i (some (.ref a))) (upd H a (PinO a oe))) ∧
    (b = false → Wout cls d σ H)
def tTryK (K : PySem.W.Frag) (c : Value) (i : Nat) (tb : WX → TS) (ts : TS) (Wout : WX) : TS := fun D σ H => tb (wAsK K c i ts Wout D) D σ H
variable {K : PySem.W.Frag} {D : Ends} {σ : L2.St} {H : Hp} {cls : Value} {d : Option Addr}
theorem x_tryK (h : tb (wAsK K c i ts Wout D) D σ H) : tTryK K c i tb ts Wout D σ H := h
theorem x_seqTK {u : TS} (h : tTryK K c i tb ts Wout { D with nx := u D } σ H) : tSeq (tTryK K c i tb ts Wout) u D σ H := h
end
/-! a def that is called in an except suite -/
section
open L2H
variable {X : Cx} {CX : CXT} {k : Nat} {f : Addr} {fd : FuncData} {ps : List Str} {sp : Sp} {E : L2.St → XK} {x : Str} {q pos : Pos} {e : Expr} {es : List Expr} {t : TA}
/-- isinstance(e, c), e an exception without fields that is tracked -/
def rIsV (K : PySem.W.Frag) : List V → Hp → VK → Prop := fun xs H Q => ∃ (a E : Addr) (c : V) (cv : Value) (b : Bool), xs = [.ref a, c] ∧ ExV H a (.ref E) none ∧ ExcC K E ∧ (∀ u, RelV c u → u = cv) ∧ PySem.W.kitOne K (.ref E) cv = some b ∧ Q (.bl b) H
variable {K : PySem.W.Frag} {H : Hp} {Q : VK} {a : Addr}
theorem ExV.off1 {H H' : Hp} {a p : Addr} {cls : Value} {d : Option Addr} (s : Off [p] H H') (h : ExV H a cls d) (n : a ≠ p) : ExV H' a cls d := by
  obtain ⟨oe, e, r⟩ := h
  exact ⟨oe, s.at e (nin_of n), r⟩
theorem ExV.ne {H : Hp} {a p : Addr} {cls : Value} {d : Option Addr} (h : ExV H a cls d) (n : H p = none) : a ≠ p := by
  obtain ⟨oe, e, r⟩ := h
  exact ne_of_none e n
theorem x_isVC {E C : Addr} {b : Bool} (h : ExV H a (.ref E) none) (hE : ExcC K E) (hk : PySem.W.kitOne K (.ref E) (.ref C) = some b) (q : Q (.bl b) H) : rIsV K [.ref a, .ref C] H Q := ⟨a, E, _, .ref C, b, rfl, h, hE, fun _ z => z, hk, q⟩
theorem x_isVT {E : Addr} {t : String} {b : Bool} (h : ExV H a (.ref E) none) (hE : ExcC K E) (hk : PySem.W.kitOne K (.ref E) (.type t) = some b) (q : Q (.bl b) H) : rIsV K [.ref a, .ty t] H Q := ⟨a, E, _, .type t, b, rfl, h, hE, fun _ z => z, hk, q⟩
end
end Kit
/-! ### the head's facts, read by a Hook of one's own -/
namespace Kit
open PySem PySem.Spec PyProof.Rows L2
section
abbrev FnWK : Type := Bool × List He.FnW
/-- lists of numbers, a part of the heap: told when they are made -/
def frList {α : Type} : List Addr → (List Addr → α) → α
  | [], k => k []
  | a :: r, k => HandSHeadRun.frNat a fun a => frList r fun r => k (a :: r)
theorem frList_eq {α : Type} : ∀ (l : List Addr) (k : List Addr → α), frList l k = k l
  | [], _ => rfl
  | a :: r, k => by
    show HandSHeadRun.frNat a (fun a => frList r fun r => k (a :: r)) = _
    rw [HandSHeadRun.frNat_eq, frList_eq r]
def frFr {α : Type} (g : Addr → Option Obj) : List Addr → (PySem.W.Frag → α) → α
  | [], k => k []
  | a :: r, k => match g a with
    | some ⟨c, d, dt, sl⟩ => frFr g r fun F => k ((a, ⟨c, d, dt, sl⟩) :: F)
    | none => frFr g r k
theorem frFr_eq {α : Type} {g : Addr → Option Obj} : ∀ (l : List Addr) (k : PySem.W.Frag → α), frFr g l k = k (He.frG g l)
  | [], _ => rfl
  | a :: r, k => by
    unfold frFr He.frG
    rw [List.filterMap_cons]
    cases h : g a with
    | none => exact frFr_eq r k
    | some o =>
      obtain ⟨c, d, dt, sl⟩ := o
      exact frFr_eq r _
/-- a def: its place in the list of addresses, its text -/
structure DefK where
  i : Nat
  name : Str
  qual : Str
  params : Arguments
  body : List Stmt
  scope : Scope
  dfl : List He.Dv := []
def fnKW (K : PySem.W.Frag) (a : Addr) : He.FnW := match K.lookup a with
  | some ⟨_, _, .func fd, _⟩ => some (fd.name, fd.qualname, fd.params, fd.body, fd.scope, fd.globals, fd.closure, fd.builtins)
  | _ => none
def DefK.val (d : DefK) : He.FnW := some (d.name, d.qual, d.params, .stmts d.body, d.scope, mainGlobals, [], builtinsNs)
def DefK.dvs (K : PySem.W.Frag) (d : DefK) : List V := d.dfl.map (He.Dv.v K)
def DefK.ok (K : PySem.W.Frag) (A : List Addr) (d : DefK) : Bool := PySem.W.keepIn K (.ref (A.getD d.i 0)) && (match K.lookup (A.getD d.i 0) with
  | some ⟨_, _, .func fd, _⟩ => PySem.W.codeIn K fd.code d.qual && (He.dflB K fd.defaults (d.dvs K) && He.kwdB K fd.kwdefaults [])
  | _ => false)
theorem DefK.funD {K : PySem.W.Frag} {A : List Addr} {d : DefK} (e : fnKW K (A.getD d.i 0) = d.val) (c : d.ok K A = true) : ∃ fd, FunD K d.name d.qual d.params d.body d.scope (d.dvs K) [] (A.getD d.i 0) fd := by
  obtain ⟨kp, c2⟩ := He.ba c
  unfold fnKW at e
  cases q : K.lookup (A.getD d.i 0) with
  | none =>
    rw [q] at c2
    cases c2
  | some o =>
    obtain ⟨oc, od, dt, osl⟩ := o
    rw [q] at c2 e
    cases dt with
    | func fd =>
      obtain ⟨n1, n2, n3, n4, n5, n6, n7, n8, n9, n10, n11, n12, n13, n14, n15⟩ := fd
      have e2 : (some (n1, n2, n3, n4, n5, n6, n7, n15) : He.FnW) = some (d.name, d.qual, d.params, .stmts d.body, d.scope, mainGlobals, [], builtinsNs) := e
      simp only [Option.some.injEq, Prod.mk.injEq] at e2
      obtain ⟨h1, h2, h3, h4, h5, h6, h7, h8⟩ := e2
      subst h1 h2 h3 h4 h5 h6 h7 h8
      have c3 : (PySem.W.codeIn K n13 d.qual && (He.dflB K n8 (d.dvs K) && He.kwdB K n9 [])) = true := c2
      obtain ⟨k1, k2⟩ := He.ba c3
      obtain ⟨k3, k4⟩ := He.ba k2
      exact ⟨_, ⟨oc, od, n8, n9, n10, n11, n12, n13, n14, osl, rfl, q, k1, He.dflB_ok k3, He.kwdB_ok k4⟩, kp⟩
    | _ => cases c2
abbrev FsK : Type := PySem.W.Frag → List Addr → Bool
def obsK (fs : FsK) (fn : List DefK) (K : PySem.W.Frag) (A : List Addr) : FnWK := (fs K A && fn.all fun d => d.ok K A, fn.map fun d => fnKW K (A.getD d.i 0))
def valK (fn : List DefK) : FnWK := (true, fn.map DefK.val)
def SaysK (fs : FsK) (fn : List DefK) (K : PySem.W.Frag) (A : List Addr) : Prop := obsK fs fn K A = valK fn
def obsKG (ls : (Addr → Option Obj) → List Addr) (fs : FsK) (fn : List DefK) (g : Addr → Option Obj) : FnWK := frList (ls g) fun A => frFr g A fun K => obsK fs fn K A
theorem obsKG_is {ls : (Addr → Option Obj) → List Addr} {fs : FsK} {fn : List DefK} {g : Addr → Option Obj} : obsKG ls fs fn g = obsK fs fn (He.frG g (ls g)) (ls g) := by
  unfold obsKG
  rw [frList_eq, frFr_eq]
def hookK (ls : (Addr → Option Obj) → List Addr) (fs : FsK) (fn : List DefK) : PySem.W.Hook where
  α := FnWK
  obs := fun s => obsKG ls fs fn s.heap.get?
  val := fun _ => valK fn
  says := fun _ h => ∃ (K : PySem.W.Frag) (A : List Addr), K.In h ∧ SaysK fs fn K A
  of := fun _ _ e => ⟨_, _, He.frG_in, obsKG_is.symm.trans e⟩
  keeps := fun _ _ _ ⟨K, A, hK, c⟩ k => ⟨K, A, PySem.W.Frag.In.keeps hK k, c⟩
theorem obsKG_eq {ls : (Addr → Option Obj) → List Addr} {fs : FsK} {fn : List DefK} {g : Addr → Option Obj} {s : Shared} (h : ∀ a, g a = s.heap.get? a) : obsKG ls fs fn g = (hookK ls fs fn).obs s := by
  have e : g = s.heap.get? := funext h
  rw [e] <;> rfl
variable {fs : FsK} {fn : List DefK} {K : PySem.W.Frag} {A : List Addr}
theorem SaysK.facts (c : SaysK fs fn K A) : fs K A = true := (He.ba (show (fs K A && fn.all fun d => d.ok K A) = true from congrArg (fun z : FnWK => z.1) c)).1
theorem SaysK.def_ (c : SaysK fs fn K A) (i : Nat) {d : DefK} (h : fn[i]? = some d := by rfl) : ∃ fd, FunD K d.name d.qual d.params d.body d.scope (d.dvs K) [] (A.getD d.i 0) fd := by
  have c2 := (He.ba (show (fs K A && fn.all fun d => d.ok K A) = true from congrArg (fun z : FnWK => z.1) c)).2
  have e : fn.map (fun d => fnKW K (A.getD d.i 0)) = fn.map DefK.val := congrArg (fun z : FnWK => z.2) c
  have e2 : (fn.map fun d => fnKW K (A.getD d.i 0))[i]? = (fn.map DefK.val)[i]? := by rw [e]
  rw [List.getElem?_map, List.getElem?_map, h] at e2
  exact DefK.funD (Option.some.inj e2) (List.all_eq_true.mp c2 d (List.mem_of_getElem? h))
/-! addresses of the program's objects -/
def gK (g : Addr → Option Obj) (x : Str) : Addr := match PySem.W.nsIn (He.frG g [mainGlobals]) mainGlobals x with
  | some (some (.ref a)) => a
  | _ => 0
def nsK (g : Addr → Option Obj) (a : Addr) : Addr := match g a with
  | some ⟨_, _, .cls cd, _⟩ => cd.ns
  | _ => 0
def mK (g : Addr → Option Obj) (c m : Str) : Addr := match PySem.W.nsIn (He.frG g [nsK g (gK g c)]) (nsK g (gK g c)) m with
  | some (some (.ref a)) => a
  | _ => 0
def cdK (g : Addr → Option Obj) (a : Addr) : Addr := match g a with
  | some ⟨_, _, .func fd, _⟩ => (match fd.code with
    | .ref b => b
    | _ => 0)
  | _ => 0
def dfK (g : Addr → Option Obj) (a : Addr) : Addr := match g a with
  | some ⟨_, _, .func fd, _⟩ => (match fd.defaults with
    | .ref b => b
    | _ => 0)
  | _ => 0
/-- what a class finds, as one Bool -/
def fclB (o : Option PySem.W.CFound) (v : Value) : Bool := match o with
  | some (.val u) => decide (u = v)
  | _ => false
theorem fclB_ok {o : Option PySem.W.CFound} {v : Value} (h : fclB o v = true) : o = some (.val v) := by
  unfold fclB at h
  split at h
  · rw [of_decide_eq_true h]
  · cases h
theorem funK_of {x qual : Str} {st : Stmt} {f : Addr} {fd : FuncData} {kws : List (Str × V)} (F : FunD K x qual (defArgs st) (defBody st) (defScope st) [] kws f fd) : L2.Fun K x qual st f fd := by
  obtain ⟨oc, od, dV, kV, doc, pm, an, cdv, ct, osl, e, l, c, hd, _⟩ := F.ex
  rcases hd with ⟨_, e2⟩ | ⟨e2, _⟩
  · subst e2
    exact ⟨⟨oc, od, kV, doc, pm, an, cdv, ct, osl, e, l, c⟩, F.kp⟩
  · exact absurd rfl e2
/-- an exception class with an own __init__, as one Bool -/
def oexB (K : PySem.W.Frag) (C : Addr) : Bool := match K.lookup C with
  | some ⟨.type t, _, .cls cd, sl⟩ => decide (t = "type") && ((match cd.mro with
    | .ref D :: bm => decide (D = C) && PySem.HandSPX.refsVE bm
    | _ => false) && (cd.hasDict && (!cd.hasDel && (match sl.toList with
    | [_, _, _, _, some (.builtin s), _] => decide (s = "ValueError.__new__")
    | _ => false))))
  | _ => false
theorem oexB_ok {C : Addr} (h : oexB K C = true) : ∃ nm q N bs bm sn sub ab col dd k0 k1 k2 k3 k5, K.lookup C = some (excClassObj nm q C N bs bm true sn sub ab col dd k0 k1 k2 k3 k5 "ValueError.__new__") ∧ PySem.HandSPX.refsVE bm = true := by
  unfold oexB at h
  split at h
  · rename_i t dd cd sl hl
    obtain ⟨h1, h⟩ := He.ba h
    obtain ⟨h2, h⟩ := He.ba h
    obtain ⟨h3, h⟩ := He.ba h
    obtain ⟨h4, h5⟩ := He.ba h
    obtain rfl : t = "type" := of_decide_eq_true h1
    obtain ⟨nm, bs, mro, ns, q, hd, sn, sub, ab, col, hdel⟩ := cd
    dsimp only at h2 h3 h4
    cases mro with
    | nil => cases h2
    | cons v bm =>
      cases v with
      | ref D =>
        obtain ⟨h6, h7⟩ := He.ba h2
        obtain rfl : D = C := of_decide_eq_true h6
        subst h3
        have h4 : hdel = false := by cases hdel <;> first | rfl | cases h4
        subst h4
        split at h5
        · rename_i k0 k1 k2 k3 s k5 hs
          obtain rfl : s = "ValueError.__new__" := of_decide_eq_true h5
          refine ⟨nm, q, ns, bs, bm, sn, sub, ab, col, dd, k0, k1, k2, k3, k5, ?_, h7⟩
          rw [hl]
          have es : sl = #[k0, k1, k2, k3, some (.builtin "ValueError.__new__"), k5] := by
            cases sl
            exact congrArg Array.mk hs
          rw [es]
        · cases h5
      | _ => cases h2
  · cases h
/-- what a module's name stands for -/
def gvK (K : PySem.W.Frag) (x : Str) : Value := match PySem.W.nsIn K mainGlobals x with
  | some (some v) => v
  | _ => .none
theorem walk_ofW {l : PySem.W.OpenLaw} {n k : Nat} {q : Program} {loose : List Str} {XP : (Str → Option Value) → Heap → Prop} {YP : World → Heap → Prop} {d : DefRec} {CX : World → CXT} {x : Str}
    (hn : l.most = some n) (hn2 : n ≤ sizeLine) (hdf : d.params.defaults = []) (hr : Room k callerA)
    (F : ∀ (w : World) (mg : Str → Option Value) (fa : Addr) (h : Heap), YP w h → h.Ns mainGlobals mg → mg d.name = some (.ref fa) →
      ∃ (K : PySem.W.Frag) (fd : FuncData) (sp : Sp), K.In h ∧ (∀ (s : Shared) (u : Value), BindsTo s fd ⟨[u], []⟩ [(x, u)]) ∧
        (∀ (H : Hp) (a : Addr) (ns : List Int), ns.length ≤ n → Only H → SqL K H a (ns.map V.int) → sp [.ref a] H (fun v _ => v = .bl true) fun _ _ _ => False) ∧
        ∀ base : Heap, K.In base → base.Ns mainGlobals mg → FnOk l.prog w K mg base (CX w) k fa fd [x] sp)
    (hCX : ∀ (w : World) (H : Hp) (s : Shared) (e : Value) (s' : Shared), CX w [] H s (fun _ _ _ => False) e s' → False) :
    PySem.W.WalkO q loose XP YP l.row.toRowW d [] (fun f vs => PySem.call f vs) := by
  refine Att.attach_call hn hdf fun w s₀ s₁ mg mb fa o pm cd doc a vs ns G Y ho hd hcd hmg hobj hints hlen hg => ?_
  obtain ⟨K, fd, sp, KX, hb, hsp, hF⟩ := F w mg fa _ Y G.T.g hmg
  exact law_call KX G.T.g G.T.b G.T.builtins G.T.nolimit hg hobj hints (Nat.le_trans hlen hn2) hr hF hb (fun H hO hS => hsp H a ns hlen hO hS) fun H e s' => hCX w H s₁ e s'
end
/-! ### a list comprehension in a def that is called in an except suite (my own rule; the kit's asks for calm) -/
/-! ### a suite that raises: exceptions whose context is known (my own rules) -/
end Kit
namespace Kit
open PySem PySem.Spec PyProof.Rows L2 LamX
/-! ### a lambda that is kept, and called later -/
/-- a cell that holds a value that is known -/
def CellO (c : Addr) (v : V) : HO := .ext fun h => ∃ u, RelV v u ∧ h.IsCell c (some u)
abbrev Cap := Option (Str × Addr × V)
def capL : Cap → List (Str × Addr)
  | none => []
  | some (y, c, _) => [(y, c)]
def CapAt (H : Hp) : Cap → Prop
  | none => True
  | some (_, c, v) => H c = some (CellO c v)
def capA : Cap → List Addr
  | none => []
  | some (_, c, _) => [c]
/-- a lambda at f, its code object, what it has captured -/
def LamA (H : Hp) (f c' : Addr) (qual : Str) (params : Arguments) (body : Expr) (scope : Scope) (cap : Cap) : Prop :=
  (∃ pm ctv, H f = some (PinO f (PySem.W.kla_obj "<lambda>" qual params body scope (capL cap) pm c' ctv))) ∧ H c' = some (CodeO c' qual) ∧ CapAt H cap
theorem LamA.keep {H H' : Hp} {f c' : Addr} {qual : Str} {params : Arguments} {body : Expr} {scope : Scope} {cap : Cap} (h : LamA H f c' qual params body scope cap) (k : ∀ a ∈ f :: c' :: capA cap, ∀ o, H a = some o → H' a = some o) : LamA H' f c' qual params body scope cap := by
  obtain ⟨⟨pm, ctv, a⟩, b, c⟩ := h
  refine ⟨⟨pm, ctv, k f List.mem_cons_self _ a⟩, k c' (List.mem_cons_of_mem _ List.mem_cons_self) _ b, ?_⟩
  cases cap with
  | none => trivial
  | some x => exact k x.2.1 (by simp [capA]) _ c
/-! ### such a thing called by way of a field -/
/-! ### a def that hands out a lambda: its ends told with its names -/
/-! ### the head's facts with tables of code objects -/
end Kit
namespace My
open PySem L2 Kit
def top (i : Nat) : Stmt := PySem.Challenge.pw_wornpages_k66_planted_faults.main.body.getD i (.Pass ⟨0, 0, 0, 0⟩)
abbrev s_mark_of : Stmt := top 3
abbrev N_mark_of : List Str := ["stamp", "name"]
theorem sc_mark_of : FnScope N_mark_of ["stamp", "name"] (defScope s_mark_of) := ⟨rfl, rfl, rfl, by decide +kernel, rfl, by decide +kernel, by decide +kernel⟩
abbrev s_stamp_of : Stmt := top 4
abbrev N_stamp_of : List Str := ["mark"]
theorem sc_stamp_of : FnScope N_stamp_of ["mark"] (defScope s_stamp_of) := ⟨rfl, rfl, rfl, by decide +kernel, rfl, by decide +kernel, by decide +kernel⟩
abbrev s_name_of : Stmt := top 5
abbrev N_name_of : List Str := ["mark"]
theorem sc_name_of : FnScope N_name_of ["mark"] (defScope s_name_of) := ⟨rfl, rfl, rfl, by decide +kernel, rfl, by decide +kernel, by decide +kernel⟩
abbrev s_sheets_of : Stmt := top 6
abbrev N_sheets_of : List Str := ["bits", "found", "sheet"]
theorem sc_sheets_of : FnScope N_sheets_of ["bits"] (defScope s_sheets_of) := ⟨rfl, rfl, rfl, by decide +kernel, rfl, by decide +kernel, by decide +kernel⟩
abbrev s_Book_init : Stmt := inClass (top 8) 0
abbrev N_Book_init : List Str := ["self", "blocks", "pages"]
theorem sc_Book_init : FnScope N_Book_init ["self", "blocks", "pages"] (defScope s_Book_init) := ⟨rfl, rfl, rfl, by decide +kernel, rfl, by decide +kernel, by decide +kernel⟩
abbrev s_Book_start_at : Stmt := inClass (top 8) 1
abbrev N_Book_start_at : List Str := ["self", "stamp"]
theorem sc_Book_start_at : FnScope N_Book_start_at ["self", "stamp"] (defScope s_Book_start_at) := ⟨rfl, rfl, rfl, by decide +kernel, rfl, by decide +kernel, by decide +kernel⟩
abbrev s_Book_mark : Stmt := inClass (top 8) 2
abbrev s_Book_note : Stmt := inClass (top 8) 3
abbrev N_Book_note : List Str := ["self", "page", "name", "block"]
theorem sc_Book_note : FnScope N_Book_note ["self", "page", "name"] (defScope s_Book_note) := ⟨rfl, rfl, rfl, by decide +kernel, rfl, by decide +kernel, by decide +kernel⟩
abbrev s_Book_forget : Stmt := inClass (top 8) 4
abbrev N_Book_forget : List Str := ["self", "name", "page"]
theorem sc_Book_forget : FnScope N_Book_forget ["self", "name"] (defScope s_Book_forget) := ⟨rfl, rfl, rfl, by decide +kernel, rfl, by decide +kernel, by decide +kernel⟩
abbrev s_Book_held : Stmt := inClass (top 8) 7
abbrev N_Book_held : List Str := ["self", "name"]
theorem sc_Book_held : FnScope N_Book_held ["self"] (defScope s_Book_held) := ⟨rfl, rfl, rfl, by decide +kernel, rfl, by decide +kernel, by decide +kernel⟩
abbrev s_Book_tell : Stmt := inClass (top 8) 8
abbrev s_BlockFailed_init : Stmt := inClass (top 14) 0
abbrev N_BlockFailed_init : List Str := ["self", "block"]
theorem sc_BlockFailed_init : FnScope N_BlockFailed_init ["self", "block"] (defScope s_BlockFailed_init) := ⟨rfl, rfl, rfl, by decide +kernel, rfl, by decide +kernel, by decide +kernel⟩
abbrev s_NotClear_init : Stmt := inClass (top 15) 0
abbrev N_NotClear_init : List Str := ["self", "page"]
theorem sc_NotClear_init : FnScope N_NotClear_init ["self", "page"] (defScope s_NotClear_init) := ⟨rfl, rfl, rfl, by decide +kernel, rfl, by decide +kernel, by decide +kernel⟩
abbrev s_is_whole : Stmt := top 17
abbrev N_is_whole : List Str := ["thing"]
theorem sc_is_whole : FnScope N_is_whole ["thing"] (defScope s_is_whole) := ⟨rfl, rfl, rfl, by decide +kernel, rfl, by decide +kernel, by decide +kernel⟩
abbrev s_is_within : Stmt := top 18
abbrev N_is_within : List Str := ["thing", "low", "high"]
theorem sc_is_within : FnScope N_is_within ["thing", "low", "high"] (defScope s_is_within) := ⟨rfl, rfl, rfl, by decide +kernel, rfl, by decide +kernel, by decide +kernel⟩
abbrev s_rows_by_stamp : Stmt := top 20
abbrev N_rows_by_stamp : List Str := ["chip", "found", "page", "stuff"]
theorem sc_rows_by_stamp : FnScope N_rows_by_stamp ["chip"] (defScope s_rows_by_stamp) := ⟨rfl, rfl, rfl, by decide +kernel, rfl, by decide +kernel, by decide +kernel⟩
abbrev s_stamp_of_roll : Stmt := top 21
abbrev N_stamp_of_roll : List Str := ["rows", "newest", "stamp", "page", "name", "value"]
theorem sc_stamp_of_roll : FnScope N_stamp_of_roll ["rows"] (defScope s_stamp_of_roll) := ⟨rfl, rfl, rfl, by decide +kernel, rfl, by decide +kernel, by decide +kernel⟩
abbrev s_book_of : Stmt := top 22
abbrev N_book_of : List Str := ["chip", "book", "rows", "newest", "stamp", "page", "name", "value", "kept", "sheet"]
theorem sc_book_of : FnScope N_book_of ["chip"] (defScope s_book_of) := ⟨rfl, rfl, rfl, by decide +kernel, rfl, by decide +kernel, by decide +kernel⟩
abbrev s_fault : Stmt := top 24
abbrev N_fault : List Str := ["chip", "book", "sheet", "page", "stuff"]
theorem sc_fault : FnScope N_fault ["chip", "book", "sheet", "page"] (defScope s_fault) := ⟨rfl, rfl, rfl, by decide +kernel, rfl, by decide +kernel, by decide +kernel⟩
abbrev s_faults : Stmt := top 25
abbrev N_faults : List Str := ["chip", "told", "book", "found", "known", "sheet", "page", "sort"]
theorem sc_faults : FnScope N_faults ["chip", "told"] (defScope s_faults) := ⟨rfl, rfl, rfl, by decide +kernel, rfl, by decide +kernel, by decide +kernel⟩
abbrev s_endurance : Stmt := top 29
abbrev N_endurance : List Str := ["blocks", "ills", "found", "block", "good"]
theorem sc_endurance : FnScope N_endurance ["blocks", "ills"] (defScope s_endurance) := ⟨rfl, rfl, rfl, by decide +kernel, rfl, by decide +kernel, by decide +kernel⟩
abbrev s_Chip_init : Stmt := inClass (top 30) 0
abbrev N_Chip_init : List Str := ["self", "blocks", "pages", "most", "ills"]
abbrev dfl_Chip_init : List V := [V.int (1000000), V.non]
theorem sc_Chip_init : FnScope N_Chip_init ["self", "blocks", "pages", "most", "ills"] (defScope s_Chip_init) := ⟨rfl, rfl, rfl, by decide +kernel, rfl, by decide +kernel, by decide +kernel⟩
abbrev s_Chip_need_page : Stmt := inClass (top 30) 1
abbrev N_Chip_need_page : List Str := ["self", "page"]
theorem sc_Chip_need_page : FnScope N_Chip_need_page ["self", "page"] (defScope s_Chip_need_page) := ⟨rfl, rfl, rfl, by decide +kernel, rfl, by decide +kernel, by decide +kernel⟩
abbrev s_Chip_need_block : Stmt := inClass (top 30) 2
abbrev s_Chip_need_power : Stmt := inClass (top 30) 3
abbrev N_Chip_need_power : List Str := ["self"]
theorem sc_Chip_need_power : FnScope N_Chip_need_power ["self"] (defScope s_Chip_need_power) := ⟨rfl, rfl, rfl, by decide +kernel, rfl, by decide +kernel, by decide +kernel⟩
abbrev s_Chip_need_good : Stmt := inClass (top 30) 4
abbrev N_Chip_need_good : List Str := ["self", "block"]
theorem sc_Chip_need_good : FnScope N_Chip_need_good ["self", "block"] (defScope s_Chip_need_good) := ⟨rfl, rfl, rfl, by decide +kernel, rfl, by decide +kernel, by decide +kernel⟩
abbrev s_Chip_goes_well : Stmt := inClass (top 30) 5
abbrev N_Chip_goes_well : List Str := ["self", "block", "worn", "well"]
theorem sc_Chip_goes_well : FnScope N_Chip_goes_well ["self", "block", "worn"] (defScope s_Chip_goes_well) := ⟨rfl, rfl, rfl, by decide +kernel, rfl, by decide +kernel, by decide +kernel⟩
abbrev s_Chip_put : Stmt := inClass (top 30) 6
abbrev N_Chip_put : List Str := ["self", "page", "stuff", "block", "well"]
theorem sc_Chip_put : FnScope N_Chip_put ["self", "page", "stuff"] (defScope s_Chip_put) := ⟨rfl, rfl, rfl, by decide +kernel, rfl, by decide +kernel, by decide +kernel⟩
abbrev s_Chip_read : Stmt := inClass (top 30) 8
abbrev N_Chip_read : List Str := ["self", "page"]
theorem sc_Chip_read : FnScope N_Chip_read ["self", "page"] (defScope s_Chip_read) := ⟨rfl, rfl, rfl, by decide +kernel, rfl, by decide +kernel, by decide +kernel⟩
abbrev s_Chip_is_dark : Stmt := inClass (top 30) 11
abbrev N_Chip_is_dark : List Str := ["self"]
theorem sc_Chip_is_dark : FnScope N_Chip_is_dark ["self"] (defScope s_Chip_is_dark) := ⟨rfl, rfl, rfl, by decide +kernel, rfl, by decide +kernel, by decide +kernel⟩
abbrev s_Chip_failed : Stmt := inClass (top 30) 13
abbrev s_Chip_deeds : Stmt := inClass (top 30) 14
abbrev s__law_cell_at : Stmt := top 32
abbrev N__law_cell_at : List Str := ["_law_script", "_law_k"]
theorem sc__law_cell_at : FnScope N__law_cell_at ["_law_script", "_law_k"] (defScope s__law_cell_at) := ⟨rfl, rfl, rfl, by decide +kernel, rfl, by decide +kernel, by decide +kernel⟩
abbrev s__law_mix : Stmt := top 33
abbrev N__law_mix : List Str := ["_law_cell", "_law_k", "_law_m"]
theorem sc__law_mix : FnScope N__law_mix ["_law_cell", "_law_k"] (defScope s__law_mix) := ⟨rfl, rfl, rfl, by decide +kernel, rfl, by decide +kernel, by decide +kernel⟩
abbrev s__law_newest : Stmt := top 34
abbrev N__law_newest : List Str := ["_law_chip", "_law_size", "_law_rows", "_law_page_here", "_law_stuff", "_law_newest_here", "_law_roll", "_law_stamp", "_law_name_here", "_law_value"]
theorem sc__law_newest : FnScope N__law_newest ["_law_chip", "_law_size"] (defScope s__law_newest) := ⟨rfl, rfl, rfl, by decide +kernel, rfl, by decide +kernel, by decide +kernel⟩
abbrev s__law_found : Stmt := top 35
abbrev N__law_found : List Str := ["_law_chip", "_law_size", "_law_newest_here", "_law_roll", "_law_found_here", "_law_name_here", "_law_stamp", "_law_page_here", "_law_value"]
theorem sc__law_found : FnScope N__law_found ["_law_chip", "_law_size"] (defScope s__law_found) := ⟨rfl, rfl, rfl, by decide +kernel, rfl, by decide +kernel, by decide +kernel⟩
abbrev s__law_name : Stmt := top 36
abbrev N__law_name : List Str := ["_law_k", "_law_way", "_law_name_here"]
theorem sc__law_name : FnScope N__law_name ["_law_k", "_law_way"] (defScope s__law_name) := ⟨rfl, rfl, rfl, by decide +kernel, rfl, by decide +kernel, by decide +kernel⟩
abbrev s__law_bits : Stmt := top 37
abbrev N__law_bits : List Str := ["_law_cell", "_law_way", "_law_bits_here", "_law_k"]
theorem sc__law_bits : FnScope N__law_bits ["_law_cell", "_law_way"] (defScope s__law_bits) := ⟨rfl, rfl, rfl, by decide +kernel, rfl, by decide +kernel, by decide +kernel⟩
abbrev s__law_lay : Stmt := top 38
abbrev N__law_lay : List Str := ["_law_chip", "_law_script", "_law_blocks", "_law_pages", "_law_way", "_law_filled", "_law_k", "_law_block", "_law_name_here", "_law_value"]
theorem sc__law_lay : FnScope N__law_lay ["_law_chip", "_law_script", "_law_blocks", "_law_pages", "_law_way"] (defScope s__law_lay) := ⟨rfl, rfl, rfl, by decide +kernel, rfl, by decide +kernel, by decide +kernel⟩
abbrev s__law_page : Stmt := top 39
abbrev N__law_page : List Str := ["_law_cell", "_law_size", "_law_some"]
theorem sc__law_page : FnScope N__law_page ["_law_cell", "_law_size"] (defScope s__law_page) := ⟨rfl, rfl, rfl, by decide +kernel, rfl, by decide +kernel, by decide +kernel⟩
abbrev s__law_spoiled : Stmt := top 40
abbrev N__law_spoiled : List Str := ["_law_told", "_law_cell", "_law_size", "_law_way", "_law_at", "_law_page_here", "_law_sheet"]
theorem sc__law_spoiled : FnScope N__law_spoiled ["_law_told", "_law_cell", "_law_size", "_law_way"] (defScope s__law_spoiled) := ⟨rfl, rfl, rfl, by decide +kernel, rfl, by decide +kernel, by decide +kernel⟩
abbrev s__law_sort : Stmt := top 41
abbrev N__law_sort : List Str := ["_law_chip", "_law_size", "_law_found_here", "_law_sheet", "_law_page_here"]
theorem sc__law_sort : FnScope N__law_sort ["_law_chip", "_law_size", "_law_found_here", "_law_sheet", "_law_page_here"] (defScope s__law_sort) := ⟨rfl, rfl, rfl, by decide +kernel, rfl, by decide +kernel, by decide +kernel⟩
abbrev s__law_due : Stmt := top 42
abbrev N__law_due : List Str := ["_law_chip", "_law_size", "_law_found_here", "_law_told", "_law_rows", "_law_known", "_law_sheet", "_law_page_here", "_law_sort_here"]
theorem sc__law_due : FnScope N__law_due ["_law_chip", "_law_size", "_law_found_here", "_law_told"] (defScope s__law_due) := ⟨rfl, rfl, rfl, by decide +kernel, rfl, by decide +kernel, by decide +kernel⟩
abbrev s_law : Stmt := top 43
abbrev N_law : List Str := ["_law_script", "_law_blocks", "_law_pages", "_law_way", "_law_chip", "_law_found_here", "_law_told", "_law_sheet", "_law_turn", "_law_k", "_law_handed", "_law_answer"]
theorem sc_law : FnScope N_law ["_law_script"] (defScope s_law) := ⟨rfl, rfl, rfl, by decide +kernel, rfl, by decide +kernel, by decide +kernel⟩
def fsK0 (K : PySem.W.Frag) (A : List Addr) : Bool := decide (PySem.W.nsIn K mainGlobals "mark_of" = some (some (.ref (A.getD 18 0)))) && (decide (PySem.W.nsIn K mainGlobals "stamp_of" = some (some (.ref (A.getD 19 0)))) && (decide (PySem.W.nsIn K mainGlobals "name_of" = some (some (.ref (A.getD 20 0)))) && (decide (PySem.W.nsIn K mainGlobals "sheets_of" = some (some (.ref (A.getD 21 0)))) && (decide (PySem.W.nsIn K mainGlobals "is_whole" = some (some (.ref (A.getD 31 0)))) && (decide (PySem.W.nsIn K mainGlobals "is_within" = some (some (.ref (A.getD 32 0)))) && (decide (PySem.W.nsIn K mainGlobals "rows_by_stamp" = some (some (.ref (A.getD 33 0)))) && (decide (PySem.W.nsIn K mainGlobals "stamp_of_roll" = some (some (.ref (A.getD 34 0)))) && (decide (PySem.W.nsIn K mainGlobals "book_of" = some (some (.ref (A.getD 35 0)))) && (decide (PySem.W.nsIn K mainGlobals "fault" = some (some (.ref (A.getD 36 0)))) && (decide (PySem.W.nsIn K mainGlobals "faults" = some (some (.ref (A.getD 37 0)))) && (decide (PySem.W.nsIn K mainGlobals "endurance" = some (some (.ref (A.getD 38 0)))) && (decide (PySem.W.nsIn K mainGlobals "_law_cell_at" = some (some (.ref (A.getD 50 0)))) && (decide (PySem.W.nsIn K mainGlobals "_law_mix" = some (some (.ref (A.getD 51 0)))) && (decide (PySem.W.nsIn K mainGlobals "_law_newest" = some (some (.ref (A.getD 52 0)))) && (decide (PySem.W.nsIn K mainGlobals "_law_found" = some (some (.ref (A.getD 53 0)))) && (decide (PySem.W.nsIn K mainGlobals "_law_name" = some (some (.ref (A.getD 54 0)))) && (decide (PySem.W.nsIn K mainGlobals "_law_bits" = some (some (.ref (A.getD 55 0)))) && (decide (PySem.W.nsIn K mainGlobals "_law_lay" = some (some (.ref (A.getD 56 0)))) && (decide (PySem.W.nsIn K mainGlobals "_law_page" = some (some (.ref (A.getD 57 0)))) && (decide (PySem.W.nsIn K mainGlobals "_law_spoiled" = some (some (.ref (A.getD 58 0)))) && (decide (PySem.W.nsIn K mainGlobals "_law_sort" = some (some (.ref (A.getD 59 0)))) && (decide (PySem.W.nsIn K mainGlobals "_law_due" = some (some (.ref (A.getD 60 0)))) && (decide (PySem.W.nsIn K mainGlobals "law" = some (some (.ref (A.getD 61 0)))) && (decide (PySem.W.nsIn K mainGlobals "Book" = some (some (.ref (A.getD 2 0))))))))))))))))))))))))))))
theorem fsK0_ok {K : PySem.W.Frag} {A : List Addr} (h : fsK0 K A = true) : (PySem.W.nsIn K mainGlobals "mark_of" = some (some (.ref (A.getD 18 0)))) ∧ (PySem.W.nsIn K mainGlobals "stamp_of" = some (some (.ref (A.getD 19 0)))) ∧ (PySem.W.nsIn K mainGlobals "name_of" = some (some (.ref (A.getD 20 0)))) ∧ (PySem.W.nsIn K mainGlobals "sheets_of" = some (some (.ref (A.getD 21 0)))) ∧ (PySem.W.nsIn K mainGlobals "is_whole" = some (some (.ref (A.getD 31 0)))) ∧ (PySem.W.nsIn K mainGlobals "is_within" = some (some (.ref (A.getD 32 0)))) ∧ (PySem.W.nsIn K mainGlobals "rows_by_stamp" = some (some (.ref (A.getD 33 0)))) ∧ (PySem.W.nsIn K mainGlobals "stamp_of_roll" = some (some (.ref (A.getD 34 0)))) ∧ (PySem.W.nsIn K mainGlobals "book_of" = some (some (.ref (A.getD 35 0)))) ∧ (PySem.W.nsIn K mainGlobals "fault" = some (some (.ref (A.getD 36 0)))) ∧ (PySem.W.nsIn K mainGlobals "faults" = some (some (.ref (A.getD 37 0)))) ∧ (PySem.W.nsIn K mainGlobals "endurance" = some (some (.ref (A.getD 38 0)))) ∧ (PySem.W.nsIn K mainGlobals "_law_cell_at" = some (some (.ref (A.getD 50 0)))) ∧ (PySem.W.nsIn K mainGlobals "_law_mix" = some (some (.ref (A.getD 51 0)))) ∧ (PySem.W.nsIn K mainGlobals "_law_newest" = some (some (.ref (A.getD 52 0)))) ∧ (PySem.W.nsIn K mainGlobals "_law_found" = some (some (.ref (A.getD 53 0)))) ∧ (PySem.W.nsIn K mainGlobals "_law_name" = some (some (.ref (A.getD 54 0)))) ∧ (PySem.W.nsIn K mainGlobals "_law_bits" = some (some (.ref (A.getD 55 0)))) ∧ (PySem.W.nsIn K mainGlobals "_law_lay" = some (some (.ref (A.getD 56 0)))) ∧ (PySem.W.nsIn K mainGlobals "_law_page" = some (some (.ref (A.getD 57 0)))) ∧ (PySem.W.nsIn K mainGlobals "_law_spoiled" = some (some (.ref (A.getD 58 0)))) ∧ (PySem.W.nsIn K mainGlobals "_law_sort" = some (some (.ref (A.getD 59 0)))) ∧ (PySem.W.nsIn K mainGlobals "_law_due" = some (some (.ref (A.getD 60 0)))) ∧ (PySem.W.nsIn K mainGlobals "law" = some (some (.ref (A.getD 61 0)))) ∧ (PySem.W.nsIn K mainGlobals "Book" = some (some (.ref (A.getD 2 0)))) := by
  unfold fsK0 at h
  obtain ⟨h0, h⟩ := He.ba h
  obtain ⟨h1, h⟩ := He.ba h
  obtain ⟨h2, h⟩ := He.ba h
  obtain ⟨h3, h⟩ := He.ba h
  obtain ⟨h4, h⟩ := He.ba h
  obtain ⟨h5, h⟩ := He.ba h
  obtain ⟨h6, h⟩ := He.ba h
  obtain ⟨h7, h⟩ := He.ba h
  obtain ⟨h8, h⟩ := He.ba h
  obtain ⟨h9, h⟩ := He.ba h
  obtain ⟨h10, h⟩ := He.ba h
  obtain ⟨h11, h⟩ := He.ba h
  obtain ⟨h12, h⟩ := He.ba h
  obtain ⟨h13, h⟩ := He.ba h
  obtain ⟨h14, h⟩ := He.ba h
  obtain ⟨h15, h⟩ := He.ba h
  obtain ⟨h16, h⟩ := He.ba h
  obtain ⟨h17, h⟩ := He.ba h
  obtain ⟨h18, h⟩ := He.ba h
  obtain ⟨h19, h⟩ := He.ba h
  obtain ⟨h20, h⟩ := He.ba h
  obtain ⟨h21, h⟩ := He.ba h
  obtain ⟨h22, h⟩ := He.ba h
  obtain ⟨h23, h⟩ := He.ba h
  exact ⟨of_decide_eq_true h0, of_decide_eq_true h1, of_decide_eq_true h2, of_decide_eq_true h3, of_decide_eq_true h4, of_decide_eq_true h5, of_decide_eq_true h6, of_decide_eq_true h7, of_decide_eq_true h8, of_decide_eq_true h9, of_decide_eq_true h10, of_decide_eq_true h11, of_decide_eq_true h12, of_decide_eq_true h13, of_decide_eq_true h14, of_decide_eq_true h15, of_decide_eq_true h16, of_decide_eq_true h17, of_decide_eq_true h18, of_decide_eq_true h19, of_decide_eq_true h20, of_decide_eq_true h21, of_decide_eq_true h22, of_decide_eq_true h23, of_decide_eq_true h⟩
def fsK1 (K : PySem.W.Frag) (A : List Addr) : Bool := PySem.W.plainGet K (A.getD 2 0) Str.empty && (PySem.W.hasDictIn K (A.getD 2 0) && (PySem.W.plainOver K (A.getD 2 0) && (decide (PySem.W.findIn K (.ref (A.getD 2 0)) "__setattr__" = some (some (.builtin "object.__setattr__"))) && (decide (PySem.W.findIn K (.ref (A.getD 2 0)) "blocks" = some none) && (decide (PySem.W.findIn K (.ref (A.getD 2 0)) "pages" = some none) && (decide (PySem.W.findIn K (.ref (A.getD 2 0)) "where" = some none) && (decide (PySem.W.findIn K (.ref (A.getD 2 0)) "names" = some none) && (decide (PySem.W.findIn K (.ref (A.getD 2 0)) "live" = some none) && (decide (PySem.W.findIn K (.ref (A.getD 2 0)) "filled" = some none) && (decide (PySem.W.findIn K (.ref (A.getD 2 0)) "born" = some none) && (decide (PySem.W.findIn K (.ref (A.getD 2 0)) "stamp" = some none) && (decide (PySem.W.findIn K (.ref (A.getD 2 0)) "__init__" = some (some (.ref (A.getD 22 0)))) && (PySem.W.isFn K (.ref (A.getD 22 0)) && (PySem.W.makesIn K (A.getD 2 0) && (PySem.W.keepIn K (.ref (A.getD 2 0)) && (decide (PySem.W.findIn K (.ref (A.getD 2 0)) "start_at" = some (some (.ref (A.getD 23 0)))) && (PySem.W.isFn K (.ref (A.getD 23 0)) && (decide (PySem.W.findIn K (.ref (A.getD 2 0)) "mark" = some (some (.ref (A.getD 24 0)))) && (PySem.W.isFn K (.ref (A.getD 24 0)) && (decide (PySem.W.findIn K (.ref (A.getD 2 0)) "note" = some (some (.ref (A.getD 25 0)))) && (PySem.W.isFn K (.ref (A.getD 25 0)) && (decide (PySem.W.findIn K (.ref (A.getD 2 0)) "forget" = some (some (.ref (A.getD 26 0)))) && (PySem.W.isFn K (.ref (A.getD 26 0)) && (decide (PySem.W.findIn K (.ref (A.getD 2 0)) "held" = some (some (.ref (A.getD 27 0))))))))))))))))))))))))))))
theorem fsK1_ok {K : PySem.W.Frag} {A : List Addr} (h : fsK1 K A = true) : (PySem.W.plainGet K (A.getD 2 0) Str.empty = true) ∧ (PySem.W.hasDictIn K (A.getD 2 0) = true) ∧ (PySem.W.plainOver K (A.getD 2 0) = true) ∧ (PySem.W.findIn K (.ref (A.getD 2 0)) "__setattr__" = some (some (.builtin "object.__setattr__"))) ∧ (PySem.W.findIn K (.ref (A.getD 2 0)) "blocks" = some none) ∧ (PySem.W.findIn K (.ref (A.getD 2 0)) "pages" = some none) ∧ (PySem.W.findIn K (.ref (A.getD 2 0)) "where" = some none) ∧ (PySem.W.findIn K (.ref (A.getD 2 0)) "names" = some none) ∧ (PySem.W.findIn K (.ref (A.getD 2 0)) "live" = some none) ∧ (PySem.W.findIn K (.ref (A.getD 2 0)) "filled" = some none) ∧ (PySem.W.findIn K (.ref (A.getD 2 0)) "born" = some none) ∧ (PySem.W.findIn K (.ref (A.getD 2 0)) "stamp" = some none) ∧ (PySem.W.findIn K (.ref (A.getD 2 0)) "__init__" = some (some (.ref (A.getD 22 0)))) ∧ (PySem.W.isFn K (.ref (A.getD 22 0)) = true) ∧ (PySem.W.makesIn K (A.getD 2 0) = true) ∧ (PySem.W.keepIn K (.ref (A.getD 2 0)) = true) ∧ (PySem.W.findIn K (.ref (A.getD 2 0)) "start_at" = some (some (.ref (A.getD 23 0)))) ∧ (PySem.W.isFn K (.ref (A.getD 23 0)) = true) ∧ (PySem.W.findIn K (.ref (A.getD 2 0)) "mark" = some (some (.ref (A.getD 24 0)))) ∧ (PySem.W.isFn K (.ref (A.getD 24 0)) = true) ∧ (PySem.W.findIn K (.ref (A.getD 2 0)) "note" = some (some (.ref (A.getD 25 0)))) ∧ (PySem.W.isFn K (.ref (A.getD 25 0)) = true) ∧ (PySem.W.findIn K (.ref (A.getD 2 0)) "forget" = some (some (.ref (A.getD 26 0)))) ∧ (PySem.W.isFn K (.ref (A.getD 26 0)) = true) ∧ (PySem.W.findIn K (.ref (A.getD 2 0)) "held" = some (some (.ref (A.getD 27 0)))) := by
  unfold fsK1 at h
  obtain ⟨h0, h⟩ := He.ba h
  obtain ⟨h1, h⟩ := He.ba h
  obtain ⟨h2, h⟩ := He.ba h
  obtain ⟨h3, h⟩ := He.ba h
  obtain ⟨h4, h⟩ := He.ba h
  obtain ⟨h5, h⟩ := He.ba h
  obtain ⟨h6, h⟩ := He.ba h
  obtain ⟨h7, h⟩ := He.ba h
  obtain ⟨h8, h⟩ := He.ba h
  obtain ⟨h9, h⟩ := He.ba h
  obtain ⟨h10, h⟩ := He.ba h
  obtain ⟨h11, h⟩ := He.ba h
  obtain ⟨h12, h⟩ := He.ba h
  obtain ⟨h13, h⟩ := He.ba h
  obtain ⟨h14, h⟩ := He.ba h
  obtain ⟨h15, h⟩ := He.ba h
  obtain ⟨h16, h⟩ := He.ba h
  obtain ⟨h17, h⟩ := He.ba h
  obtain ⟨h18, h⟩ := He.ba h
  obtain ⟨h19, h⟩ := He.ba h
  obtain ⟨h20, h⟩ := He.ba h
  obtain ⟨h21, h⟩ := He.ba h
  obtain ⟨h22, h⟩ := He.ba h
  obtain ⟨h23, h⟩ := He.ba h
  exact ⟨h0, h1, h2, of_decide_eq_true h3, of_decide_eq_true h4, of_decide_eq_true h5, of_decide_eq_true h6, of_decide_eq_true h7, of_decide_eq_true h8, of_decide_eq_true h9, of_decide_eq_true h10, of_decide_eq_true h11, of_decide_eq_true h12, h13, h14, h15, of_decide_eq_true h16, h17, of_decide_eq_true h18, h19, of_decide_eq_true h20, h21, of_decide_eq_true h22, h23, of_decide_eq_true h⟩
def fsK2 (K : PySem.W.Frag) (A : List Addr) : Bool := PySem.W.isFn K (.ref (A.getD 27 0)) && (decide (PySem.W.findIn K (.ref (A.getD 2 0)) "tell" = some (some (.ref (A.getD 28 0)))) && (PySem.W.isFn K (.ref (A.getD 28 0)) && (decide (PySem.W.nsIn K mainGlobals "Chip" = some (some (.ref (A.getD 3 0)))) && (PySem.W.plainGet K (A.getD 3 0) Str.empty && (PySem.W.hasDictIn K (A.getD 3 0) && (PySem.W.plainOver K (A.getD 3 0) && (decide (PySem.W.findIn K (.ref (A.getD 3 0)) "__setattr__" = some (some (.builtin "object.__setattr__"))) && (decide (PySem.W.findIn K (.ref (A.getD 3 0)) "blocks" = some none) && (decide (PySem.W.findIn K (.ref (A.getD 3 0)) "pages" = some none) && (decide (PySem.W.findIn K (.ref (A.getD 3 0)) "most" = some none) && (decide (PySem.W.findIn K (.ref (A.getD 3 0)) "lasts" = some none) && (decide (PySem.W.findIn K (.ref (A.getD 3 0)) "stuff" = some none) && (decide (PySem.W.findIn K (.ref (A.getD 3 0)) "tried" = some none) && (decide (PySem.W.findIn K (.ref (A.getD 3 0)) "clearings" = some none) && (decide (PySem.W.findIn K (.ref (A.getD 3 0)) "broken" = some none) && (decide (PySem.W.findIn K (.ref (A.getD 3 0)) "left" = some none) && (decide (PySem.W.findIn K (.ref (A.getD 3 0)) "log" = some none) && (decide (PySem.W.findIn K (.ref (A.getD 3 0)) "__init__" = some (some (.ref (A.getD 39 0)))) && (PySem.W.isFn K (.ref (A.getD 39 0)) && (PySem.W.makesIn K (A.getD 3 0) && (PySem.W.keepIn K (.ref (A.getD 3 0)) && (decide (PySem.W.findIn K (.ref (A.getD 3 0)) "need_page" = some (some (.ref (A.getD 40 0)))) && (PySem.W.isFn K (.ref (A.getD 40 0)) && (decide (PySem.W.findIn K (.ref (A.getD 3 0)) "need_block" = some (some (.ref (A.getD 41 0))))))))))))))))))))))))))))
theorem fsK2_ok {K : PySem.W.Frag} {A : List Addr} (h : fsK2 K A = true) : (PySem.W.isFn K (.ref (A.getD 27 0)) = true) ∧ (PySem.W.findIn K (.ref (A.getD 2 0)) "tell" = some (some (.ref (A.getD 28 0)))) ∧ (PySem.W.isFn K (.ref (A.getD 28 0)) = true) ∧ (PySem.W.nsIn K mainGlobals "Chip" = some (some (.ref (A.getD 3 0)))) ∧ (PySem.W.plainGet K (A.getD 3 0) Str.empty = true) ∧ (PySem.W.hasDictIn K (A.getD 3 0) = true) ∧ (PySem.W.plainOver K (A.getD 3 0) = true) ∧ (PySem.W.findIn K (.ref (A.getD 3 0)) "__setattr__" = some (some (.builtin "object.__setattr__"))) ∧ (PySem.W.findIn K (.ref (A.getD 3 0)) "blocks" = some none) ∧ (PySem.W.findIn K (.ref (A.getD 3 0)) "pages" = some none) ∧ (PySem.W.findIn K (.ref (A.getD 3 0)) "most" = some none) ∧ (PySem.W.findIn K (.ref (A.getD 3 0)) "lasts" = some none) ∧ (PySem.W.findIn K (.ref (A.getD 3 0)) "stuff" = some none) ∧ (PySem.W.findIn K (.ref (A.getD 3 0)) "tried" = some none) ∧ (PySem.W.findIn K (.ref (A.getD 3 0)) "clearings" = some none) ∧ (PySem.W.findIn K (.ref (A.getD 3 0)) "broken" = some none) ∧ (PySem.W.findIn K (.ref (A.getD 3 0)) "left" = some none) ∧ (PySem.W.findIn K (.ref (A.getD 3 0)) "log" = some none) ∧ (PySem.W.findIn K (.ref (A.getD 3 0)) "__init__" = some (some (.ref (A.getD 39 0)))) ∧ (PySem.W.isFn K (.ref (A.getD 39 0)) = true) ∧ (PySem.W.makesIn K (A.getD 3 0) = true) ∧ (PySem.W.keepIn K (.ref (A.getD 3 0)) = true) ∧ (PySem.W.findIn K (.ref (A.getD 3 0)) "need_page" = some (some (.ref (A.getD 40 0)))) ∧ (PySem.W.isFn K (.ref (A.getD 40 0)) = true) ∧ (PySem.W.findIn K (.ref (A.getD 3 0)) "need_block" = some (some (.ref (A.getD 41 0)))) := by
  unfold fsK2 at h
  obtain ⟨h0, h⟩ := He.ba h
  obtain ⟨h1, h⟩ := He.ba h
  obtain ⟨h2, h⟩ := He.ba h
  obtain ⟨h3, h⟩ := He.ba h
  obtain ⟨h4, h⟩ := He.ba h
  obtain ⟨h5, h⟩ := He.ba h
  obtain ⟨h6, h⟩ := He.ba h
  obtain ⟨h7, h⟩ := He.ba h
  obtain ⟨h8, h⟩ := He.ba h
  obtain ⟨h9, h⟩ := He.ba h
  obtain ⟨h10, h⟩ := He.ba h
  obtain ⟨h11, h⟩ := He.ba h
  obtain ⟨h12, h⟩ := He.ba h
  obtain ⟨h13, h⟩ := He.ba h
  obtain ⟨h14, h⟩ := He.ba h
  obtain ⟨h15, h⟩ := He.ba h
  obtain ⟨h16, h⟩ := He.ba h
  obtain ⟨h17, h⟩ := He.ba h
  obtain ⟨h18, h⟩ := He.ba h
  obtain ⟨h19, h⟩ := He.ba h
  obtain ⟨h20, h⟩ := He.ba h
  obtain ⟨h21, h⟩ := He.ba h
  obtain ⟨h22, h⟩ := He.ba h
  obtain ⟨h23, h⟩ := He.ba h
  exact ⟨h0, of_decide_eq_true h1, h2, of_decide_eq_true h3, h4, h5, h6, of_decide_eq_true h7, of_decide_eq_true h8, of_decide_eq_true h9, of_decide_eq_true h10, of_decide_eq_true h11, of_decide_eq_true h12, of_decide_eq_true h13, of_decide_eq_true h14, of_decide_eq_true h15, of_decide_eq_true h16, of_decide_eq_true h17, of_decide_eq_true h18, h19, h20, h21, of_decide_eq_true h22, h23, of_decide_eq_true h⟩
def fsK3 (K : PySem.W.Frag) (A : List Addr) : Bool := PySem.W.isFn K (.ref (A.getD 41 0)) && (decide (PySem.W.findIn K (.ref (A.getD 3 0)) "need_power" = some (some (.ref (A.getD 42 0)))) && (PySem.W.isFn K (.ref (A.getD 42 0)) && (decide (PySem.W.findIn K (.ref (A.getD 3 0)) "need_good" = some (some (.ref (A.getD 43 0)))) && (PySem.W.isFn K (.ref (A.getD 43 0)) && (decide (PySem.W.findIn K (.ref (A.getD 3 0)) "goes_well" = some (some (.ref (A.getD 44 0)))) && (PySem.W.isFn K (.ref (A.getD 44 0)) && (decide (PySem.W.findIn K (.ref (A.getD 3 0)) "put" = some (some (.ref (A.getD 45 0)))) && (PySem.W.isFn K (.ref (A.getD 45 0)) && (decide (PySem.W.findIn K (.ref (A.getD 3 0)) "read" = some (some (.ref (A.getD 46 0)))) && (PySem.W.isFn K (.ref (A.getD 46 0)) && (decide (PySem.W.findIn K (.ref (A.getD 3 0)) "is_dark" = some (some (.ref (A.getD 47 0)))) && (PySem.W.isFn K (.ref (A.getD 47 0)) && (decide (PySem.W.findIn K (.ref (A.getD 3 0)) "failed" = some (some (.ref (A.getD 48 0)))) && (PySem.W.isFn K (.ref (A.getD 48 0)) && (decide (PySem.W.findIn K (.ref (A.getD 3 0)) "deeds" = some (some (.ref (A.getD 49 0)))) && (PySem.W.isFn K (.ref (A.getD 49 0)) && (decide (PySem.W.nsIn K mainGlobals "WornError" = some (some (.ref (A.getD 4 0)))) && (PySem.W.excIn K (A.getD 4 0) [.type "ValueError", .type "Exception", .type "BaseException", .type "object"] "ValueError.__new__" && (PySem.W.keepIn K (.ref (A.getD 4 0)) && (decide (PySem.W.subIn K (.ref (A.getD 4 0)) (.type "BaseException") = some true) && (decide (PySem.W.typeIn K (.ref (A.getD 4 0)) = some (.type "type")) && (decide (PySem.W.nsIn K mainGlobals "NoChip" = some (some (.ref (A.getD 5 0)))) && (PySem.W.excIn K (A.getD 5 0) [.type "ValueError", .type "Exception", .type "BaseException", .type "object"] "ValueError.__new__" && (PySem.W.keepIn K (.ref (A.getD 5 0))))))))))))))))))))))))))
theorem fsK3_ok {K : PySem.W.Frag} {A : List Addr} (h : fsK3 K A = true) : (PySem.W.isFn K (.ref (A.getD 41 0)) = true) ∧ (PySem.W.findIn K (.ref (A.getD 3 0)) "need_power" = some (some (.ref (A.getD 42 0)))) ∧ (PySem.W.isFn K (.ref (A.getD 42 0)) = true) ∧ (PySem.W.findIn K (.ref (A.getD 3 0)) "need_good" = some (some (.ref (A.getD 43 0)))) ∧ (PySem.W.isFn K (.ref (A.getD 43 0)) = true) ∧ (PySem.W.findIn K (.ref (A.getD 3 0)) "goes_well" = some (some (.ref (A.getD 44 0)))) ∧ (PySem.W.isFn K (.ref (A.getD 44 0)) = true) ∧ (PySem.W.findIn K (.ref (A.getD 3 0)) "put" = some (some (.ref (A.getD 45 0)))) ∧ (PySem.W.isFn K (.ref (A.getD 45 0)) = true) ∧ (PySem.W.findIn K (.ref (A.getD 3 0)) "read" = some (some (.ref (A.getD 46 0)))) ∧ (PySem.W.isFn K (.ref (A.getD 46 0)) = true) ∧ (PySem.W.findIn K (.ref (A.getD 3 0)) "is_dark" = some (some (.ref (A.getD 47 0)))) ∧ (PySem.W.isFn K (.ref (A.getD 47 0)) = true) ∧ (PySem.W.findIn K (.ref (A.getD 3 0)) "failed" = some (some (.ref (A.getD 48 0)))) ∧ (PySem.W.isFn K (.ref (A.getD 48 0)) = true) ∧ (PySem.W.findIn K (.ref (A.getD 3 0)) "deeds" = some (some (.ref (A.getD 49 0)))) ∧ (PySem.W.isFn K (.ref (A.getD 49 0)) = true) ∧ (PySem.W.nsIn K mainGlobals "WornError" = some (some (.ref (A.getD 4 0)))) ∧ (PySem.W.excIn K (A.getD 4 0) [.type "ValueError", .type "Exception", .type "BaseException", .type "object"] "ValueError.__new__" = true) ∧ (PySem.W.keepIn K (.ref (A.getD 4 0)) = true) ∧ (PySem.W.subIn K (.ref (A.getD 4 0)) (.type "BaseException") = some true) ∧ (PySem.W.typeIn K (.ref (A.getD 4 0)) = some (.type "type")) ∧ (PySem.W.nsIn K mainGlobals "NoChip" = some (some (.ref (A.getD 5 0)))) ∧ (PySem.W.excIn K (A.getD 5 0) [.type "ValueError", .type "Exception", .type "BaseException", .type "object"] "ValueError.__new__" = true) ∧ (PySem.W.keepIn K (.ref (A.getD 5 0)) = true) := by
  unfold fsK3 at h
  obtain ⟨h0, h⟩ := He.ba h
  obtain ⟨h1, h⟩ := He.ba h
  obtain ⟨h2, h⟩ := He.ba h
  obtain ⟨h3, h⟩ := He.ba h
  obtain ⟨h4, h⟩ := He.ba h
  obtain ⟨h5, h⟩ := He.ba h
  obtain ⟨h6, h⟩ := He.ba h
  obtain ⟨h7, h⟩ := He.ba h
  obtain ⟨h8, h⟩ := He.ba h
  obtain ⟨h9, h⟩ := He.ba h
  obtain ⟨h10, h⟩ := He.ba h
  obtain ⟨h11, h⟩ := He.ba h
  obtain ⟨h12, h⟩ := He.ba h
  obtain ⟨h13, h⟩ := He.ba h
  obtain ⟨h14, h⟩ := He.ba h
  obtain ⟨h15, h⟩ := He.ba h
  obtain ⟨h16, h⟩ := He.ba h
  obtain ⟨h17, h⟩ := He.ba h
  obtain ⟨h18, h⟩ := He.ba h
  obtain ⟨h19, h⟩ := He.ba h
  obtain ⟨h20, h⟩ := He.ba h
  obtain ⟨h21, h⟩ := He.ba h
  obtain ⟨h22, h⟩ := He.ba h
  obtain ⟨h23, h⟩ := He.ba h
  exact ⟨h0, of_decide_eq_true h1, h2, of_decide_eq_true h3, h4, of_decide_eq_true h5, h6, of_decide_eq_true h7, h8, of_decide_eq_true h9, h10, of_decide_eq_true h11, h12, of_decide_eq_true h13, h14, of_decide_eq_true h15, h16, of_decide_eq_true h17, h18, h19, of_decide_eq_true h20, of_decide_eq_true h21, of_decide_eq_true h22, h23, h⟩
def fsK4 (K : PySem.W.Frag) (A : List Addr) : Bool := decide (PySem.W.subIn K (.ref (A.getD 5 0)) (.type "BaseException") = some true) && (decide (PySem.W.typeIn K (.ref (A.getD 5 0)) = some (.type "type")) && (decide (PySem.W.nsIn K mainGlobals "NoPlace" = some (some (.ref (A.getD 6 0)))) && (PySem.W.excIn K (A.getD 6 0) [.type "ValueError", .type "Exception", .type "BaseException", .type "object"] "ValueError.__new__" && (PySem.W.keepIn K (.ref (A.getD 6 0)) && (decide (PySem.W.subIn K (.ref (A.getD 6 0)) (.type "BaseException") = some true) && (decide (PySem.W.typeIn K (.ref (A.getD 6 0)) = some (.type "type")) && (decide (PySem.W.nsIn K mainGlobals "PowerGone" = some (some (.ref (A.getD 7 0)))) && (PySem.W.excIn K (A.getD 7 0) [.type "ValueError", .type "Exception", .type "BaseException", .type "object"] "ValueError.__new__" && (PySem.W.keepIn K (.ref (A.getD 7 0)) && (decide (PySem.W.subIn K (.ref (A.getD 7 0)) (.type "BaseException") = some true) && (decide (PySem.W.typeIn K (.ref (A.getD 7 0)) = some (.type "type")) && (decide (PySem.W.nsIn K mainGlobals "BlockFailed" = some (some (.ref (A.getD 8 0)))) && (oexB K (A.getD 8 0) && (decide (PySem.W.findIn K (.ref (A.getD 8 0)) "__setattr__" = some (some (.builtin "object.__setattr__"))) && (decide (PySem.W.subIn K (.ref (A.getD 8 0)) (.type "BaseException") = some true) && (decide (PySem.W.typeIn K (.ref (A.getD 8 0)) = some (.type "type")) && (PySem.W.keepIn K (.ref (A.getD 8 0)) && (decide (PySem.W.findIn K (.ref (A.getD 8 0)) "__init__" = some (some (.ref (A.getD 29 0)))) && (decide (PySem.W.typeIn K (.ref (A.getD 29 0)) = some (.type "function")) && (xfB K (A.getD 8 0) && (decide (PySem.W.findIn K (.ref (A.getD 8 0)) "block" = some none) && (decide (PySem.W.nsIn K mainGlobals "NotClear" = some (some (.ref (A.getD 9 0)))) && (oexB K (A.getD 9 0) && (decide (PySem.W.findIn K (.ref (A.getD 9 0)) "__setattr__" = some (some (.builtin "object.__setattr__")))))))))))))))))))))))))))
theorem fsK4_ok {K : PySem.W.Frag} {A : List Addr} (h : fsK4 K A = true) : (PySem.W.subIn K (.ref (A.getD 5 0)) (.type "BaseException") = some true) ∧ (PySem.W.typeIn K (.ref (A.getD 5 0)) = some (.type "type")) ∧ (PySem.W.nsIn K mainGlobals "NoPlace" = some (some (.ref (A.getD 6 0)))) ∧ (PySem.W.excIn K (A.getD 6 0) [.type "ValueError", .type "Exception", .type "BaseException", .type "object"] "ValueError.__new__" = true) ∧ (PySem.W.keepIn K (.ref (A.getD 6 0)) = true) ∧ (PySem.W.subIn K (.ref (A.getD 6 0)) (.type "BaseException") = some true) ∧ (PySem.W.typeIn K (.ref (A.getD 6 0)) = some (.type "type")) ∧ (PySem.W.nsIn K mainGlobals "PowerGone" = some (some (.ref (A.getD 7 0)))) ∧ (PySem.W.excIn K (A.getD 7 0) [.type "ValueError", .type "Exception", .type "BaseException", .type "object"] "ValueError.__new__" = true) ∧ (PySem.W.keepIn K (.ref (A.getD 7 0)) = true) ∧ (PySem.W.subIn K (.ref (A.getD 7 0)) (.type "BaseException") = some true) ∧ (PySem.W.typeIn K (.ref (A.getD 7 0)) = some (.type "type")) ∧ (PySem.W.nsIn K mainGlobals "BlockFailed" = some (some (.ref (A.getD 8 0)))) ∧ (oexB K (A.getD 8 0) = true) ∧ (PySem.W.findIn K (.ref (A.getD 8 0)) "__setattr__" = some (some (.builtin "object.__setattr__"))) ∧ (PySem.W.subIn K (.ref (A.getD 8 0)) (.type "BaseException") = some true) ∧ (PySem.W.typeIn K (.ref (A.getD 8 0)) = some (.type "type")) ∧ (PySem.W.keepIn K (.ref (A.getD 8 0)) = true) ∧ (PySem.W.findIn K (.ref (A.getD 8 0)) "__init__" = some (some (.ref (A.getD 29 0)))) ∧ (PySem.W.typeIn K (.ref (A.getD 29 0)) = some (.type "function")) ∧ (xfB K (A.getD 8 0) = true) ∧ (PySem.W.findIn K (.ref (A.getD 8 0)) "block" = some none) ∧ (PySem.W.nsIn K mainGlobals "NotClear" = some (some (.ref (A.getD 9 0)))) ∧ (oexB K (A.getD 9 0) = true) ∧ (PySem.W.findIn K (.ref (A.getD 9 0)) "__setattr__" = some (some (.builtin "object.__setattr__"))) := by
  unfold fsK4 at h
  obtain ⟨h0, h⟩ := He.ba h
  obtain ⟨h1, h⟩ := He.ba h
  obtain ⟨h2, h⟩ := He.ba h
  obtain ⟨h3, h⟩ := He.ba h
  obtain ⟨h4, h⟩ := He.ba h
  obtain ⟨h5, h⟩ := He.ba h
  obtain ⟨h6, h⟩ := He.ba h
  obtain ⟨h7, h⟩ := He.ba h
  obtain ⟨h8, h⟩ := He.ba h
  obtain ⟨h9, h⟩ := He.ba h
  obtain ⟨h10, h⟩ := He.ba h
  obtain ⟨h11, h⟩ := He.ba h
  obtain ⟨h12, h⟩ := He.ba h
  obtain ⟨h13, h⟩ := He.ba h
  obtain ⟨h14, h⟩ := He.ba h
  obtain ⟨h15, h⟩ := He.ba h
  obtain ⟨h16, h⟩ := He.ba h
  obtain ⟨h17, h⟩ := He.ba h
  obtain ⟨h18, h⟩ := He.ba h
  obtain ⟨h19, h⟩ := He.ba h
  obtain ⟨h20, h⟩ := He.ba h
  obtain ⟨h21, h⟩ := He.ba h
  obtain ⟨h22, h⟩ := He.ba h
  obtain ⟨h23, h⟩ := He.ba h
  exact ⟨of_decide_eq_true h0, of_decide_eq_true h1, of_decide_eq_true h2, h3, h4, of_decide_eq_true h5, of_decide_eq_true h6, of_decide_eq_true h7, h8, h9, of_decide_eq_true h10, of_decide_eq_true h11, of_decide_eq_true h12, h13, of_decide_eq_true h14, of_decide_eq_true h15, of_decide_eq_true h16, h17, of_decide_eq_true h18, of_decide_eq_true h19, h20, of_decide_eq_true h21, of_decide_eq_true h22, h23, of_decide_eq_true h⟩
def fsK5 (K : PySem.W.Frag) (A : List Addr) : Bool := decide (PySem.W.subIn K (.ref (A.getD 9 0)) (.type "BaseException") = some true) && (decide (PySem.W.typeIn K (.ref (A.getD 9 0)) = some (.type "type")) && (PySem.W.keepIn K (.ref (A.getD 9 0)) && (decide (PySem.W.findIn K (.ref (A.getD 9 0)) "__init__" = some (some (.ref (A.getD 30 0)))) && (decide (PySem.W.typeIn K (.ref (A.getD 30 0)) = some (.type "function")) && (xfB K (A.getD 9 0) && (decide (PySem.W.findIn K (.ref (A.getD 9 0)) "page" = some none) && (decide (PySem.W.specialIn K (.ref (A.getD 4 0)) "__getattribute__" = some (some (.builtin "type.__getattribute__"))) && (PySem.W.readsIn K (A.getD 4 0) (.type "type") && (fclB (PySem.W.findCls K (.ref (A.getD 4 0)) (.type "type") "__init__") (.builtin "ValueError.__init__") && (decide (PySem.W.nsIn K mainGlobals "len" = some none) && (decide (PySem.W.nsIn K mainGlobals "isinstance" = some none) && (decide (PySem.W.nsIn K mainGlobals "min" = some none) && (decide (PySem.W.nsIn K mainGlobals "sorted" = some none) && (decide (PySem.W.nsIn K mainGlobals "int" = some none) && (decide (PySem.W.nsIn K mainGlobals "str" = some none) && (decide (PySem.W.nsIn K mainGlobals "list" = some none) && (decide (PySem.W.nsIn K mainGlobals "bool" = some none) && (decide (PySem.W.nsIn K mainGlobals "range" = some none) && (decide (PySem.W.nsIn K mainGlobals "ValueError" = some none) && (decide (PySem.W.nsIn K mainGlobals "ROLL" = some (some (gvK K "ROLL"))) && (He.relB (V.int (64)) (gvK K "ROLL") && (decide (PySem.W.nsIn K mainGlobals "MANY" = some (some (gvK K "MANY"))) && (He.relB (V.int (16)) (gvK K "MANY") && (decide (PySem.W.nsIn K mainGlobals "MOST" = some (some (gvK K "MOST")))))))))))))))))))))))))))
theorem fsK5_ok {K : PySem.W.Frag} {A : List Addr} (h : fsK5 K A = true) : (PySem.W.subIn K (.ref (A.getD 9 0)) (.type "BaseException") = some true) ∧ (PySem.W.typeIn K (.ref (A.getD 9 0)) = some (.type "type")) ∧ (PySem.W.keepIn K (.ref (A.getD 9 0)) = true) ∧ (PySem.W.findIn K (.ref (A.getD 9 0)) "__init__" = some (some (.ref (A.getD 30 0)))) ∧ (PySem.W.typeIn K (.ref (A.getD 30 0)) = some (.type "function")) ∧ (xfB K (A.getD 9 0) = true) ∧ (PySem.W.findIn K (.ref (A.getD 9 0)) "page" = some none) ∧ (PySem.W.specialIn K (.ref (A.getD 4 0)) "__getattribute__" = some (some (.builtin "type.__getattribute__"))) ∧ (PySem.W.readsIn K (A.getD 4 0) (.type "type") = true) ∧ (fclB (PySem.W.findCls K (.ref (A.getD 4 0)) (.type "type") "__init__") (.builtin "ValueError.__init__") = true) ∧ (PySem.W.nsIn K mainGlobals "len" = some none) ∧ (PySem.W.nsIn K mainGlobals "isinstance" = some none) ∧ (PySem.W.nsIn K mainGlobals "min" = some none) ∧ (PySem.W.nsIn K mainGlobals "sorted" = some none) ∧ (PySem.W.nsIn K mainGlobals "int" = some none) ∧ (PySem.W.nsIn K mainGlobals "str" = some none) ∧ (PySem.W.nsIn K mainGlobals "list" = some none) ∧ (PySem.W.nsIn K mainGlobals "bool" = some none) ∧ (PySem.W.nsIn K mainGlobals "range" = some none) ∧ (PySem.W.nsIn K mainGlobals "ValueError" = some none) ∧ (PySem.W.nsIn K mainGlobals "ROLL" = some (some (gvK K "ROLL"))) ∧ (He.relB (V.int (64)) (gvK K "ROLL") = true) ∧ (PySem.W.nsIn K mainGlobals "MANY" = some (some (gvK K "MANY"))) ∧ (He.relB (V.int (16)) (gvK K "MANY") = true) ∧ (PySem.W.nsIn K mainGlobals "MOST" = some (some (gvK K "MOST"))) := by
  unfold fsK5 at h
  obtain ⟨h0, h⟩ := He.ba h
  obtain ⟨h1, h⟩ := He.ba h
  obtain ⟨h2, h⟩ := He.ba h
  obtain ⟨h3, h⟩ := He.ba h
  obtain ⟨h4, h⟩ := He.ba h
  obtain ⟨h5, h⟩ := He.ba h
  obtain ⟨h6, h⟩ := He.ba h
  obtain ⟨h7, h⟩ := He.ba h
  obtain ⟨h8, h⟩ := He.ba h
  obtain ⟨h9, h⟩ := He.ba h
  obtain ⟨h10, h⟩ := He.ba h
  obtain ⟨h11, h⟩ := He.ba h
  obtain ⟨h12, h⟩ := He.ba h
  obtain ⟨h13, h⟩ := He.ba h
  obtain ⟨h14, h⟩ := He.ba h
  obtain ⟨h15, h⟩ := He.ba h
  obtain ⟨h16, h⟩ := He.ba h
  obtain ⟨h17, h⟩ := He.ba h
  obtain ⟨h18, h⟩ := He.ba h
  obtain ⟨h19, h⟩ := He.ba h
  obtain ⟨h20, h⟩ := He.ba h
  obtain ⟨h21, h⟩ := He.ba h
  obtain ⟨h22, h⟩ := He.ba h
  obtain ⟨h23, h⟩ := He.ba h
  exact ⟨of_decide_eq_true h0, of_decide_eq_true h1, h2, of_decide_eq_true h3, of_decide_eq_true h4, h5, of_decide_eq_true h6, of_decide_eq_true h7, h8, h9, of_decide_eq_true h10, of_decide_eq_true h11, of_decide_eq_true h12, of_decide_eq_true h13, of_decide_eq_true h14, of_decide_eq_true h15, of_decide_eq_true h16, of_decide_eq_true h17, of_decide_eq_true h18, of_decide_eq_true h19, of_decide_eq_true h20, h21, of_decide_eq_true h22, h23, of_decide_eq_true h⟩
def fsK6 (K : PySem.W.Frag) (A : List Addr) : Bool := He.relB (V.int (1000000)) (gvK K "MOST")
theorem fsK6_ok {K : PySem.W.Frag} {A : List Addr} (h : fsK6 K A = true) : (He.relB (V.int (1000000)) (gvK K "MOST") = true) := by
  unfold fsK6 at h
  exact h
def fsK (K : PySem.W.Frag) (A : List Addr) : Bool := fsK0 K A && (fsK1 K A && (fsK2 K A && (fsK3 K A && (fsK4 K A && (fsK5 K A && (fsK6 K A))))))
def fnK0 : List DefK := [⟨18, "mark_of", "mark_of", defArgs s_mark_of, defBody s_mark_of, defScope s_mark_of, []⟩,
  ⟨19, "stamp_of", "stamp_of", defArgs s_stamp_of, defBody s_stamp_of, defScope s_stamp_of, []⟩,
  ⟨20, "name_of", "name_of", defArgs s_name_of, defBody s_name_of, defScope s_name_of, []⟩,
  ⟨21, "sheets_of", "sheets_of", defArgs s_sheets_of, defBody s_sheets_of, defScope s_sheets_of, []⟩,
  ⟨22, "__init__", "Book.__init__", defArgs s_Book_init, defBody s_Book_init, defScope s_Book_init, []⟩,
  ⟨23, "start_at", "Book.start_at", defArgs s_Book_start_at, defBody s_Book_start_at, defScope s_Book_start_at, []⟩,
  ⟨24, "mark", "Book.mark", defArgs s_Book_mark, defBody s_Book_mark, defScope s_Book_mark, []⟩,
  ⟨25, "note", "Book.note", defArgs s_Book_note, defBody s_Book_note, defScope s_Book_note, []⟩,
  ⟨26, "forget", "Book.forget", defArgs s_Book_forget, defBody s_Book_forget, defScope s_Book_forget, []⟩,
  ⟨27, "held", "Book.held", defArgs s_Book_held, defBody s_Book_held, defScope s_Book_held, []⟩,
  ⟨28, "tell", "Book.tell", defArgs s_Book_tell, defBody s_Book_tell, defScope s_Book_tell, []⟩,
  ⟨29, "__init__", "BlockFailed.__init__", defArgs s_BlockFailed_init, defBody s_BlockFailed_init, defScope s_BlockFailed_init, []⟩,
  ⟨30, "__init__", "NotClear.__init__", defArgs s_NotClear_init, defBody s_NotClear_init, defScope s_NotClear_init, []⟩,
  ⟨31, "is_whole", "is_whole", defArgs s_is_whole, defBody s_is_whole, defScope s_is_whole, []⟩,
  ⟨32, "is_within", "is_within", defArgs s_is_within, defBody s_is_within, defScope s_is_within, []⟩,
  ⟨33, "rows_by_stamp", "rows_by_stamp", defArgs s_rows_by_stamp, defBody s_rows_by_stamp, defScope s_rows_by_stamp, []⟩,
  ⟨34, "stamp_of_roll", "stamp_of_roll", defArgs s_stamp_of_roll, defBody s_stamp_of_roll, defScope s_stamp_of_roll, []⟩,
  ⟨35, "book_of", "book_of", defArgs s_book_of, defBody s_book_of, defScope s_book_of, []⟩,
  ⟨36, "fault", "fault", defArgs s_fault, defBody s_fault, defScope s_fault, []⟩,
  ⟨37, "faults", "faults", defArgs s_faults, defBody s_faults, defScope s_faults, []⟩]
def fnK1 : List DefK := [⟨38, "endurance", "endurance", defArgs s_endurance, defBody s_endurance, defScope s_endurance, []⟩,
  ⟨39, "__init__", "Chip.__init__", defArgs s_Chip_init, defBody s_Chip_init, defScope s_Chip_init, [.int (1000000), .non]⟩,
  ⟨40, "need_page", "Chip.need_page", defArgs s_Chip_need_page, defBody s_Chip_need_page, defScope s_Chip_need_page, []⟩,
  ⟨41, "need_block", "Chip.need_block", defArgs s_Chip_need_block, defBody s_Chip_need_block, defScope s_Chip_need_block, []⟩,
  ⟨42, "need_power", "Chip.need_power", defArgs s_Chip_need_power, defBody s_Chip_need_power, defScope s_Chip_need_power, []⟩,
  ⟨43, "need_good", "Chip.need_good", defArgs s_Chip_need_good, defBody s_Chip_need_good, defScope s_Chip_need_good, []⟩,
  ⟨44, "goes_well", "Chip.goes_well", defArgs s_Chip_goes_well, defBody s_Chip_goes_well, defScope s_Chip_goes_well, []⟩,
  ⟨45, "put", "Chip.put", defArgs s_Chip_put, defBody s_Chip_put, defScope s_Chip_put, []⟩,
  ⟨46, "read", "Chip.read", defArgs s_Chip_read, defBody s_Chip_read, defScope s_Chip_read, []⟩,
  ⟨47, "is_dark", "Chip.is_dark", defArgs s_Chip_is_dark, defBody s_Chip_is_dark, defScope s_Chip_is_dark, []⟩,
  ⟨48, "failed", "Chip.failed", defArgs s_Chip_failed, defBody s_Chip_failed, defScope s_Chip_failed, []⟩,
  ⟨49, "deeds", "Chip.deeds", defArgs s_Chip_deeds, defBody s_Chip_deeds, defScope s_Chip_deeds, []⟩,
  ⟨50, "_law_cell_at", "_law_cell_at", defArgs s__law_cell_at, defBody s__law_cell_at, defScope s__law_cell_at, []⟩,
  ⟨51, "_law_mix", "_law_mix", defArgs s__law_mix, defBody s__law_mix, defScope s__law_mix, []⟩,
  ⟨52, "_law_newest", "_law_newest", defArgs s__law_newest, defBody s__law_newest, defScope s__law_newest, []⟩,
  ⟨53, "_law_found", "_law_found", defArgs s__law_found, defBody s__law_found, defScope s__law_found, []⟩,
  ⟨54, "_law_name", "_law_name", defArgs s__law_name, defBody s__law_name, defScope s__law_name, []⟩,
  ⟨55, "_law_bits", "_law_bits", defArgs s__law_bits, defBody s__law_bits, defScope s__law_bits, []⟩,
  ⟨56, "_law_lay", "_law_lay", defArgs s__law_lay, defBody s__law_lay, defScope s__law_lay, []⟩,
  ⟨57, "_law_page", "_law_page", defArgs s__law_page, defBody s__law_page, defScope s__law_page, []⟩]
def fnK2 : List DefK := [⟨58, "_law_spoiled", "_law_spoiled", defArgs s__law_spoiled, defBody s__law_spoiled, defScope s__law_spoiled, []⟩,
  ⟨59, "_law_sort", "_law_sort", defArgs s__law_sort, defBody s__law_sort, defScope s__law_sort, []⟩,
  ⟨60, "_law_due", "_law_due", defArgs s__law_due, defBody s__law_due, defScope s__law_due, []⟩,
  ⟨61, "law", "law", defArgs s_law, defBody s_law, defScope s_law, []⟩]
def fnK : List DefK := fnK0 ++ (fnK1 ++ (fnK2))
def nmK0 : List PySem.Str := ["_wall", "ROLL", "mark_of", "stamp_of", "name_of", "sheets_of", "Book", "WornError", "NoChip", "NoPlace", "PowerGone", "BlockFailed", "NotClear", "is_whole", "is_within", "rows_by_stamp", "stamp_of_roll", "book_of", "fault", "faults", "MANY", "MOST", "endurance", "Chip", "_law_cell_at", "_law_mix", "_law_newest", "_law_found", "_law_name", "_law_bits"]
def nmK1 : List PySem.Str := ["_law_lay", "_law_page", "_law_spoiled", "_law_sort", "_law_due"]
def nmK : List PySem.Str := nmK0 ++ (nmK1)
abbrev RK : PySem.W.OpenRow := PySem.W.OpenLaw.row PySem.Challenge.rw_wornpages_k66_planted_faults
abbrev qK : Program := PySem.W.view RK.prog [43]
def lsK0 (g : Addr → Option Obj) : List Addr := [mainGlobals, cStatics, gK g "Book", gK g "Chip", gK g "WornError", gK g "NoChip", gK g "NoPlace", gK g "PowerGone", gK g "BlockFailed", gK g "NotClear", nsK g (gK g "Book"), nsK g (gK g "Chip"), nsK g (gK g "WornError"), nsK g (gK g "NoChip"), nsK g (gK g "NoPlace"), nsK g (gK g "PowerGone"), nsK g (gK g "BlockFailed"), nsK g (gK g "NotClear"), gK g "mark_of", gK g "stamp_of"]
def lsK1 (g : Addr → Option Obj) : List Addr := [gK g "name_of", gK g "sheets_of", mK g "Book" "__init__", mK g "Book" "start_at", mK g "Book" "mark", mK g "Book" "note", mK g "Book" "forget", mK g "Book" "held", mK g "Book" "tell", mK g "BlockFailed" "__init__", mK g "NotClear" "__init__", gK g "is_whole", gK g "is_within", gK g "rows_by_stamp", gK g "stamp_of_roll", gK g "book_of", gK g "fault", gK g "faults", gK g "endurance", mK g "Chip" "__init__"]
def lsK2 (g : Addr → Option Obj) : List Addr := [mK g "Chip" "need_page", mK g "Chip" "need_block", mK g "Chip" "need_power", mK g "Chip" "need_good", mK g "Chip" "goes_well", mK g "Chip" "put", mK g "Chip" "read", mK g "Chip" "is_dark", mK g "Chip" "failed", mK g "Chip" "deeds", gK g "_law_cell_at", gK g "_law_mix", gK g "_law_newest", gK g "_law_found", gK g "_law_name", gK g "_law_bits", gK g "_law_lay", gK g "_law_page", gK g "_law_spoiled", gK g "_law_sort"]
def lsK3 (g : Addr → Option Obj) : List Addr := [gK g "_law_due", gK g "law", cdK g (gK g "mark_of"), cdK g (gK g "stamp_of"), cdK g (gK g "name_of"), cdK g (gK g "sheets_of"), cdK g (mK g "Book" "__init__"), cdK g (mK g "Book" "start_at"), cdK g (mK g "Book" "mark"), cdK g (mK g "Book" "note"), cdK g (mK g "Book" "forget"), cdK g (mK g "Book" "held"), cdK g (mK g "Book" "tell"), cdK g (mK g "BlockFailed" "__init__"), cdK g (mK g "NotClear" "__init__"), cdK g (gK g "is_whole"), cdK g (gK g "is_within"), cdK g (gK g "rows_by_stamp"), cdK g (gK g "stamp_of_roll"), cdK g (gK g "book_of")]
def lsK4 (g : Addr → Option Obj) : List Addr := [cdK g (gK g "fault"), cdK g (gK g "faults"), cdK g (gK g "endurance"), cdK g (mK g "Chip" "__init__"), cdK g (mK g "Chip" "need_page"), cdK g (mK g "Chip" "need_block"), cdK g (mK g "Chip" "need_power"), cdK g (mK g "Chip" "need_good"), cdK g (mK g "Chip" "goes_well"), cdK g (mK g "Chip" "put"), cdK g (mK g "Chip" "read"), cdK g (mK g "Chip" "is_dark"), cdK g (mK g "Chip" "failed"), cdK g (mK g "Chip" "deeds"), cdK g (gK g "_law_cell_at"), cdK g (gK g "_law_mix"), cdK g (gK g "_law_newest"), cdK g (gK g "_law_found"), cdK g (gK g "_law_name"), cdK g (gK g "_law_bits")]
def lsK5 (g : Addr → Option Obj) : List Addr := [cdK g (gK g "_law_lay"), cdK g (gK g "_law_page"), cdK g (gK g "_law_spoiled"), cdK g (gK g "_law_sort"), cdK g (gK g "_law_due"), cdK g (gK g "law"), dfK g (mK g "Chip" "__init__")]
def lsK (g : Addr → Option Obj) : List Addr := lsK0 g ++ (lsK1 g ++ (lsK2 g ++ (lsK3 g ++ (lsK4 g ++ (lsK5 g)))))
abbrev hkK : PySem.W.Hook := hookK lsK fsK fnK
def obK (s : PySem.W.SharedT) : FnWK := obsKG lsK fsK fnK (HandSHeadRun.getT s)
theorem obK_eq (s : PySem.W.SharedT) : obK s = hkK.obs s.abs := obsKG_eq (HandSHeadRun.getT_eq s)
theorem runK (w : World) : HandSHeadRun.RunEq RK qK hkK obK 20000 nmK w := by
  intro os
  kernel_rfl
def spLawE (K : PySem.W.Frag) : Sp := fun vs H Q _ => ∃ (a : Addr) (ns : List Int), vs = [.ref a] ∧ SqL K H a (ns.map V.int) ∧ ns.length ≤ 63 ∧ ∀ H', Q (.bl true) H'
def FinT : Prop := ∀ {w : World} {K : PySem.W.Frag} {h : Heap} {mg : Str → Option Value} {fa : Addr} {A : List Addr} (X : K.In h) (G : h.Ns mainGlobals mg) (hfa : mg "law" = some (.ref fa)) (c : SaysK fsK fnK K A),
    ∃ fd : FuncData, (∀ (s : Shared) (v : Value), BindsTo s fd ⟨[v], []⟩ [("_law_script", v)]) ∧ ∀ base : Heap, K.In base → base.Ns mainGlobals mg → FnOk (PySem.Challenge.rw_wornpages_k66_planted_faults).prog w K mg base (L2.CX (PySem.Challenge.rw_wornpages_k66_planted_faults).prog w) 12 fa fd ["_law_script"] (spLawE K)
end My
section
open PySem PySem.W PySem.Calls PyProof.Rows
theorem My.finE (hFin : My.FinT) : PySem.Challenge.rw_wornpages_k66_planted_faults.Holds := by
  w_on; o_law
  refine HandSHeadRun.head_any (r := My.RK) (q := My.qK) (H := My.hkK) (ob := My.obK) (M := 20000) (loose := My.nmK) (d := HandSHeadRun.topDef My.RK.prog 43) (kwd := []) My.obK_eq
    (by kernel_rfl) (fun s => by kernel_rfl) My.runK (by kernel_rfl) (by kernel_rfl) (by kernel_rfl) (by rfl) (by first | assumption | decide +kernel) (by decide +kernel) ⟨rfl, rfl, rfl, rfl, rfl, by decide +kernel⟩ ?hw ?hc
  case hw => w_witness2
  case hc =>
    refine Kit.walk_ofW (l := PySem.Challenge.rw_wornpages_k66_planted_faults) (n := 63) (k := 12) (x := "_law_script") (CX := fun w => L2.CX (PySem.Challenge.rw_wornpages_k66_planted_faults).prog w) rfl (by decide) (by kernel_rfl) ⟨rfl, by decide, by decide⟩ ?F ?X
    case X =>
      intro w H s e s' z
      obtain ⟨_, _, _, _, _, _, _, _, _, _, _, _, z⟩ := z
      exact z.elim
    intro w mg fa h Y G hmg0
    obtain ⟨K, A, KX, c⟩ := Y
    have hmg : mg ("law" : PySem.Str) = some (.ref fa) := by
      have e : (HandSHeadRun.topDef My.RK.prog 43).name = ("law" : PySem.Str) := by kernel_rfl
      rw [← e]
      exact hmg0
    obtain ⟨fd, hb, hF⟩ := hFin (w := w) KX G hmg c
    exact ⟨K, fd, My.spLawE K, KX, hb, fun H a ns hl _ hS => ⟨a, ns, rfl, hS, hl, fun _ => rfl⟩, hF⟩
end
namespace My
open PySem L2 Kit
/-! steps of a reading: "s" one step, "go" as far as it goes -/
local macro_rules | `(tactic| walk_at "sq") => `(tactic| first | assumption | exact SqL.of (by assumption) | exact SqT.of (by assumption) | (refine' Same.seq ?hsm ?hsq; (case hsm => assumption); (case hsq => walk_at "sq")) | (refine' SqL.of ?hhq; (case hhq => walk_at "hp")) | (refine SqT.of ?_; walk_at "hp"))
local macro_rules | `(tactic| walk_at "hp") => `(tactic| first | assumption | (refine' (show Same _ _ by assumption) _ _ ?hhp; (case hhp => walk_at "hp")))
local macro_rules | `(tactic| walk_at "nin") => `(tactic| first | exact nin_of (by assumption) | exact nin_of (Ne.symm (by assumption)))
local macro_rules | `(tactic| walk_at "off") => `(tactic| first | exact Off.refl | exact Off.of (by assumption) | exact Off.sub (by assumption) (by intro b hb; rw [List.mem_singleton] at hb; subst hb; simp) | (refine Off.trans ?_ (Off.of (by assumption)); walk_at "off") | (refine Off.trans ?_ (Off.sub (by assumption) (by intro b hb; rw [List.mem_singleton] at hb; subst hb; simp)); walk_at "off") | (refine Off.trans ?_ (by assumption); walk_at "off"))
local macro_rules | `(tactic| walk_at "hp") => `(tactic| first | assumption | (refine' Off.at ?hO1 ?hO3 ?hO2; (case hO1 => assumption); (case hO2 => walk_at "nin"); (case hO3 => walk_at "hp")) | (refine' Off.lst ?hO1 ?hO2 ?hO3; (case hO1 => assumption); (case hO2 => assumption); (case hO3 => walk_at "hp")) | (refine' (show Same _ _ by assumption) _ _ ?hhp; (case hhp => walk_at "hp")))
local macro_rules | `(tactic| walk_at "nn") => `(tactic| (refine' ne_of_none ?nna ?nnb; (case nnb => assumption); (case nna => walk_at "hp")))
local macro_rules | `(tactic| walk_at "side") => `(tactic| first | assumption | decide | omega | exact ⟨by decide, by decide, by decide⟩ | exact ⟨by decide, by decide +kernel⟩ | exact Or.inr ⟨by decide, by decide⟩ | exact ⟨by omega, by omega⟩ | exact Or.inl ⟨by omega, by omega⟩ | exact Or.inr ⟨by omega, by omega⟩ | exact cdivW (by omega) (by omega) | (simp only [List.length_cons, List.length_nil, List.length_append, Nat.zero_add, Nat.reduceAdd, Nat.reduceMul]; decide) | (simp only [List.length_append, List.length_cons, List.length_nil, List.length_map]; omega) | (simp; done))
local macro_rules | `(tactic| walk_at "isi") => `(tactic| first
  | with_reducible refine x_isiNon_int ?_
  | with_reducible refine x_isiNon_bool ?_
  | with_reducible refine x_isiNon_str ?_
  | with_reducible refine x_isiNon_list ?_
  | with_reducible refine x_isiNon_tuple ?_
  | with_reducible refine x_isiNon_dict ?_
  | with_reducible refine x_isiBl_int ?_
  | with_reducible refine x_isiBl_bool ?_
  | with_reducible refine x_isiBl_str ?_
  | with_reducible refine x_isiBl_list ?_
  | with_reducible refine x_isiBl_tuple ?_
  | with_reducible refine x_isiBl_dict ?_
  | with_reducible refine x_isiInt_int ?_
  | with_reducible refine x_isiInt_bool ?_
  | with_reducible refine x_isiInt_str ?_
  | with_reducible refine x_isiInt_list ?_
  | with_reducible refine x_isiInt_tuple ?_
  | with_reducible refine x_isiInt_dict ?_
  | with_reducible refine x_isiStr_int ?_
  | with_reducible refine x_isiStr_bool ?_
  | with_reducible refine x_isiStr_str ?_
  | with_reducible refine x_isiStr_list ?_
  | with_reducible refine x_isiStr_tuple ?_
  | with_reducible refine x_isiStr_dict ?_
  | with_reducible refine x_isiLst_int (by assumption) ?_
  | with_reducible refine x_isiLst_bool (by assumption) ?_
  | with_reducible refine x_isiLst_str (by assumption) ?_
  | with_reducible refine x_isiLst_list (by assumption) ?_
  | with_reducible refine x_isiLst_tuple (by assumption) ?_
  | with_reducible refine x_isiLst_dict (by assumption) ?_
  | with_reducible refine x_isiTup_int (by assumption) ?_
  | with_reducible refine x_isiTup_bool (by assumption) ?_
  | with_reducible refine x_isiTup_str (by assumption) ?_
  | with_reducible refine x_isiTup_list (by assumption) ?_
  | with_reducible refine x_isiTup_tuple (by assumption) ?_
  | with_reducible refine x_isiTup_dict (by assumption) ?_
  | with_reducible refine x_isiDk_int (by assumption) ?_
  | with_reducible refine x_isiDk_bool (by assumption) ?_
  | with_reducible refine x_isiDk_str (by assumption) ?_
  | with_reducible refine x_isiDk_list (by assumption) ?_
  | with_reducible refine x_isiDk_tuple (by assumption) ?_
  | with_reducible refine x_isiDk_dict (by assumption) ?_)
local macro_rules | `(tactic| walk_at "s") => `(tactic| first
  | walk_at "u"
  | with_reducible refine x_seqA ?_
  | with_reducible refine x_seqD ?_
  | with_reducible refine x_seqF ?_
  | with_reducible refine x_seqFA ?_
  | with_reducible refine x_seqAug ?_
  | with_reducible refine x_asg ?_
  | ((with_reducible refine' x_var ?hv ?_); case hv => exact rfl)
  | with_reducible refine x_c ?_
  | with_reducible refine x_op ?_
  | with_reducible refine x_cb ?_
  | with_reducible refine x_cons ?_
  | with_reducible refine x_nil ?_
  | ((with_reducible refine x_gname ?_); (try dsimp only [List.set]))
  | with_reducible refine x_if ?_
  | with_reducible refine x_ret ?_
  | with_reducible refine x_test ?_
  | ((with_reducible refine x_isbl ?_); try dsimp only)
  | ((with_reducible refine x_truBl ?_); try dsimp only)
  | with_reducible refine x_callS ?_
  | with_reducible refine x_iteT ?_
  | with_reducible refine x_iteF ?_
  | with_reducible refine x_iteN ?_
  | with_reducible refine x_I0 ?_
  | with_reducible refine x_addI ?_
  | with_reducible refine x_lt ?_
  | ((with_reducible refine x_pow ?_ ?hs); (try (case hs => walk_at "side")); (try simp only [Int.reduceToNat]))
  | ((with_reducible refine x_I ?_ ?hs); (try (case hs => walk_at "side")))
  | ((with_reducible refine x_mulI ?_ ?hs); (case hs => walk_at "side"))
  | ((with_reducible refine x_mulU ?_ ?hs); (try (case hs => walk_at "side")))
  | with_reducible refine x_eqI ?_
  | with_reducible refine x_neI ?_
  | with_reducible refine x_eqB ?_
  | with_reducible refine x_neB ?_
  | with_reducible refine x_eqS ?_
  | with_reducible refine x_andT ?_
  | with_reducible refine x_orT ?_
  | with_reducible refine x_notT ?_
  | with_reducible refine x_and ?_
  | with_reducible refine x_or ?_
  | with_reducible refine x_not ?_
  | with_reducible refine x_chain ?_
  | with_reducible refine x_tB ?_
  | with_reducible refine x_tup ?_
  | with_reducible refine x_lst ?_
  | with_reducible refine x_un ?_
  | ((with_reducible refine x_nwL ?_ ?hs); (try (case hs => walk_at "side")); intro p H1 hp hs hn)
  | ((with_reducible refine x_nwT ?_ ?hs); (try (case hs => walk_at "side")); intro p H1 hp hs hn)
  | ((with_reducible refine' x_addL ?h1 ?h2 ?_ ?hs); (case h1 => walk_at "hp"); (case h2 => walk_at "hp"); (try (case hs => walk_at "side")); intro p H1 hp hs hn)
  | ((with_reducible refine' x_rep1 ?h1 ?_ ?h0); (case h1 => walk_at "hp"); (try (case h0 => walk_at "side")); intro p H1 hp hs hn)
  | ((with_reducible refine' x_rep ?h1 ?_ ?h2 ?h0 ?hs); (case h1 => walk_at "hp"); (try (case h2 => walk_at "side")); (try (case h0 => walk_at "side")); (try (case hs => walk_at "side")); intro p H1 hp hs hn)
  | ((with_reducible refine' x_addS ?_ ?hs); (try (case hs => walk_at "side")))
  | with_reducible refine x_U ?_
  | with_reducible refine x_drop ?_
  | with_reducible refine x_retN ?_
  | ((with_reducible refine x_next ?_); try dsimp only)
  | with_reducible refine x_ifExp ?_
  | ((with_reducible refine' x_lenM ?hq ?_); case hq => walk_at "sq")
  | ((with_reducible refine' x_lenL ?hq ?_); case hq => walk_at "sq")
  | ((with_reducible refine' x_lenD ?hq ?_); case hq => walk_at "hp")
  | ((with_reducible refine' x_lenT ?hq ?_); case hq => walk_at "sq")
  | ((with_reducible refine' x_ixH ?hq ?_); (case hq => walk_at "sq"))
  | ((with_reducible refine' x_ixS ?hq ?ha ?_); (case hq => walk_at "sq"); (case ha => first | assumption | exact rfl))
  | ((with_reducible refine' x_ixI ?hq ?_ ?h0 ?h1); (case hq => walk_at "sq"); (try (case h0 => walk_at "side")); (try (case h1 => walk_at "side")))
  | ((with_reducible refine' x_ixB ?hq ?_ ?h0 ?h1); (case hq => walk_at "sq"); (try (case h0 => walk_at "side")); (try (case h1 => walk_at "side")))
  | ((with_reducible refine' x_ixL ?hq ?_ ?h0 ?h1); (case hq => walk_at "sq"); (try (case h0 => walk_at "side")); (try (case h1 => walk_at "side")))
  | ((with_reducible refine' x_ixT ?hq ?ha ?_); (case hq => walk_at "sq"); case ha => exact rfl)
  | walk_at "isi"
  | with_reducible refine x_bm ?_
  | ((with_reducible refine' x_bmL ?hq ?_); (case hq => walk_at "sq"))
  | with_reducible refine x_bm0 ?_
  | ((with_reducible refine' x_bm0L ?hq ?_); (case hq => walk_at "sq"))
  | ((with_reducible refine' x_append ?ho ?_ ?hl); (case ho => walk_at "hp"); (try (case hl => walk_at "side")))
  | ((with_reducible refine' x_clear ?ho ?_); (case ho => walk_at "hp"))
  | with_reducible refine x_slice ?_
  | with_reducible refine x_noPart ?_
  | with_reducible refine x_part ?_
  | with_reducible refine x_ptK ?_
  | ((with_reducible refine' x_slL ?hq ?_); (case hq => walk_at "sq"); intro p H1 hp hs hn)
  | with_reducible refine x_forL ?_
  | with_reducible refine x_forT ?_
  | with_reducible refine x_forS ?_
  | with_reducible refine x_forR1 ?_
  | with_reducible refine x_forR2 ?_
  | with_reducible refine x_forEn ?_
  | with_reducible refine x_forZ ?_
  | with_reducible refine x_lcL ?_
  | with_reducible refine x_lcR1 ?_
  | with_reducible refine x_lcR2 ?_
  | with_reducible refine x_yes ?_
  | ((with_reducible refine x_mk0 ?_); intro p dp H1 hp hdp hne hs hn hd)
  | with_reducible refine x_mkS ?_
  | ((with_reducible refine x_mkK ?_); intro p dp H1 hp hdp hne hs hn hd)
  | with_reducible refine x_methD ?_
  | with_reducible refine x_fldAug ?_
  | with_reducible refine x_dget ?_
  | ((with_reducible refine' x_dgS ?ho ?hv ?_); (case ho => walk_at "hp"); (case hv => exact rfl); (try dsimp only))
  | with_reducible refine x_dput ?_
  | with_reducible refine x_seqDP ?_
  | with_reducible refine x_prN ?_
  | with_reducible refine x_prC ?_
  | ((with_reducible refine x_disp ?_); intro p H1 hp hs hn)
  | ((with_reducible refine x_dnew ?_); intro p H1 hp hs hn)
  | with_reducible refine x_din ?_
  | with_reducible refine x_dnin ?_
  | ((with_reducible refine' x_dninI ?ho ?_); (case ho => walk_at "hp"))
  | with_reducible refine x_dget1 ?_
  | with_reducible refine x_dsetd ?_
  | with_reducible refine x_dpop1 ?_
  | with_reducible refine x_dpop2 ?_
  | ((with_reducible refine' x_dinI ?ho ?_); (case ho => walk_at "hp"))
  | ((with_reducible refine' x_dg1K ?ho ?_); (case ho => walk_at "hp"))
  | ((with_reducible refine' x_dg1I ?ho ?_); (case ho => walk_at "hp"))
  | ((with_reducible refine' x_dsK ?ho ?_); (case ho => walk_at "hp"))
  | ((with_reducible refine' x_dpp1K ?ho ?_); (case ho => walk_at "hp"))
  | ((with_reducible refine' x_dpp2K ?ho ?_); (case ho => walk_at "hp"))
  | with_reducible refine x_augS ?_
  | with_reducible refine x_seqAS ?_
  | with_reducible refine x_rSub ?_
  | ((with_reducible refine' x_getI ?hq ?_ ?h0 ?h1); (case hq => walk_at "sq"); (try (case h0 => walk_at "side")); (try (case h1 => walk_at "side")))
  | ((with_reducible refine' x_getL ?hq ?_ ?h0 ?h1); (case hq => walk_at "sq"); (try (case h0 => walk_at "side")); (try (case h1 => walk_at "side")))
  | with_reducible refine x_gsub ?_
  | ((with_reducible refine' x_setL ?ho ?_ ?h0 ?h1); (case ho => walk_at "hp"); (try (case h0 => walk_at "side")); (try (case h1 => walk_at "side")); intro H1 hO hI; (try dsimp only))
  | ((with_reducible refine' x_sfN ?ho ?hf ?_ ?hc ?hn ?hl); (case ho => walk_at "hp"); (case hf => exact rfl); (case hc => walk_at "cls"); (case hn => walk_at "na"); (case hl => exact Nat.le_of_ble_eq_true rfl); intro H1 hO hI; (dsimp only [List.cons_append, List.nil_append] at hI); (try dsimp only))
  | ((with_reducible refine' x_fldK ?ho ?hf ?_ ?hc ?hn); (case ho => walk_at "hp"); (case hf => exact rfl); (case hc => walk_at "cls"); (case hn => walk_at "na"))
  | ((with_reducible refine' x_aug ?hv ?_); case hv => exact rfl)
  | ((with_reducible refine x_ipI ?_); (try dsimp only [List.set]))
  | with_reducible refine x_rAdd ?_
  | with_reducible refine x_isB ?_
  | with_reducible refine x_isNotB ?_
  | with_reducible refine x_isN ?_
  | with_reducible refine x_isNotN ?_
  | ((with_reducible refine' x_inI ?hq ?_); (case hq => walk_at "sq"))
  | ((with_reducible refine' x_notInI ?hq ?_); (case hq => walk_at "sq"))
  | ((with_reducible refine x_intB ?_); try dsimp only)
  | with_reducible refine x_intI ?_
  | with_reducible refine x_raise ?_
  | with_reducible refine x_seqR ?_
  | with_reducible refine x_mkE ?_
  | with_reducible refine x_try1 ?_
  | with_reducible refine x_seqT1 ?_
  | with_reducible refine x_tryA ?_
  | with_reducible refine x_seqTA ?_
  | with_reducible refine x_tryK ?_
  | with_reducible refine x_seqTK ?_
  | with_reducible refine x_tryM ?_
  | with_reducible refine x_seqTM ?_
  | with_reducible refine x_mix ?_
  | with_reducible refine x_seqMix ?_
  | with_reducible refine x_xf ?_
  | with_reducible refine x_mkO ?_
  | with_reducible refine x_vei ?_
  | with_reducible refine x_fld ?_
  | with_reducible refine x_sfld ?_
  | ((with_reducible refine' x_gtup2 ?hq ?_); (case hq => walk_at "sq"); (try dsimp only [List.set]))
  | ((with_reducible refine' x_glst4 ?hq ?_); (case hq => walk_at "sq"); (try dsimp only [List.set]))
  | with_reducible refine x_max2 ?_
  | with_reducible refine x_min2 ?_
  | ((with_reducible refine' x_list ?hq ?_); (case hq => walk_at "sq"); intro p H1 hp hs hn)
  | with_reducible refine x_listRev ?_
  | ((with_reducible refine' x_lrK ?hq ?_); (case hq => walk_at "sq"); intro p H1 hp hs hn)
  | ((with_reducible refine' x_tupL ?hq ?_); (case hq => walk_at "sq"); intro p H1 hp hs hn)
  | ((with_reducible refine' x_listD ?hq ?_); (case hq => walk_at "hp"); intro p H1 hp hs hn)
  | ((with_reducible refine x_shl ?_ ?hs); (try (case hs => walk_at "side")))
  | ((with_reducible refine x_str ?_ ?hs); (try (case hs => walk_at "side"))))
local macro_rules | `(tactic| walk_at "go") => `(tactic| repeat walk_at "s")
local macro_rules | `(tactic| walk_at "begin") => `(tactic| simp only [L2H.cxH, cxOf, L2.start, List.map, List.length_cons, List.length_nil, List.replicate, Nat.reduceAdd, Nat.reduceSub, List.cons_append, List.nil_append])
local macro_rules | `(tactic| walk_at "if") => `(tactic| ((with_reducible refine x_seq ?_); repeat walk_at "s"))
local macro_rules | `(tactic| walk_at "exv") => `(tactic| first | assumption | ((refine' ExV.mono ?exa ?exb); (case exa => assumption); (case exb => assumption)) | ((refine' ExV.off1 ?exo ?exx ?exn); (case exo => assumption); (case exx => assumption); (case exn => assumption)))
local macro_rules | `(tactic| walk_at "u") => `(tactic| first | ((with_reducible refine' x_isVC ?exv ?exe ?exk ?_); (case exv => walk_at "exv"); (case exe => assumption); (case exk => assumption)) | ((with_reducible refine' x_isVT ?exv ?exe ?exk ?_); (case exv => walk_at "exv"); (case exe => assumption); (case exk => assumption)))
--#LAWSPEC 12
structure Txt (K : PySem.W.Frag) (mg : Str → Option Value) where
  a_mark_of : Addr
  fd_mark_of : FuncData
  F_mark_of : Fun K "mark_of" "mark_of" s_mark_of a_mark_of fd_mark_of
  bd_mark_of : Binds K fd_mark_of ["stamp", "name"] []
  k_mark_of : PySem.W.keepIn K (.ref a_mark_of) = true
  g_mark_of : mg "mark_of" = some (.ref a_mark_of)
  a_stamp_of : Addr
  fd_stamp_of : FuncData
  F_stamp_of : Fun K "stamp_of" "stamp_of" s_stamp_of a_stamp_of fd_stamp_of
  bd_stamp_of : Binds K fd_stamp_of ["mark"] []
  k_stamp_of : PySem.W.keepIn K (.ref a_stamp_of) = true
  g_stamp_of : mg "stamp_of" = some (.ref a_stamp_of)
  a_name_of : Addr
  fd_name_of : FuncData
  F_name_of : Fun K "name_of" "name_of" s_name_of a_name_of fd_name_of
  bd_name_of : Binds K fd_name_of ["mark"] []
  k_name_of : PySem.W.keepIn K (.ref a_name_of) = true
  g_name_of : mg "name_of" = some (.ref a_name_of)
  a_sheets_of : Addr
  fd_sheets_of : FuncData
  F_sheets_of : Fun K "sheets_of" "sheets_of" s_sheets_of a_sheets_of fd_sheets_of
  bd_sheets_of : Binds K fd_sheets_of ["bits"] []
  k_sheets_of : PySem.W.keepIn K (.ref a_sheets_of) = true
  g_sheets_of : mg "sheets_of" = some (.ref a_sheets_of)
  a_Book_init : Addr
  fd_Book_init : FuncData
  F_Book_init : Fun K "__init__" "Book.__init__" s_Book_init a_Book_init fd_Book_init
  bd_Book_init : Binds K fd_Book_init ["self", "blocks", "pages"] []
  k_Book_init : PySem.W.keepIn K (.ref a_Book_init) = true
  a_Book_start_at : Addr
  fd_Book_start_at : FuncData
  F_Book_start_at : Fun K "start_at" "Book.start_at" s_Book_start_at a_Book_start_at fd_Book_start_at
  bd_Book_start_at : Binds K fd_Book_start_at ["self", "stamp"] []
  k_Book_start_at : PySem.W.keepIn K (.ref a_Book_start_at) = true
  a_Book_mark : Addr
  fd_Book_mark : FuncData
  F_Book_mark : Fun K "mark" "Book.mark" s_Book_mark a_Book_mark fd_Book_mark
  bd_Book_mark : Binds K fd_Book_mark ["self", "name"] []
  k_Book_mark : PySem.W.keepIn K (.ref a_Book_mark) = true
  a_Book_note : Addr
  fd_Book_note : FuncData
  F_Book_note : Fun K "note" "Book.note" s_Book_note a_Book_note fd_Book_note
  bd_Book_note : Binds K fd_Book_note ["self", "page", "name"] []
  k_Book_note : PySem.W.keepIn K (.ref a_Book_note) = true
  a_Book_forget : Addr
  fd_Book_forget : FuncData
  F_Book_forget : Fun K "forget" "Book.forget" s_Book_forget a_Book_forget fd_Book_forget
  bd_Book_forget : Binds K fd_Book_forget ["self", "name"] []
  k_Book_forget : PySem.W.keepIn K (.ref a_Book_forget) = true
  a_Book_held : Addr
  fd_Book_held : FuncData
  F_Book_held : Fun K "held" "Book.held" s_Book_held a_Book_held fd_Book_held
  bd_Book_held : Binds K fd_Book_held ["self"] []
  k_Book_held : PySem.W.keepIn K (.ref a_Book_held) = true
  a_Book_tell : Addr
  fd_Book_tell : FuncData
  F_Book_tell : Fun K "tell" "Book.tell" s_Book_tell a_Book_tell fd_Book_tell
  bd_Book_tell : Binds K fd_Book_tell ["self"] []
  k_Book_tell : PySem.W.keepIn K (.ref a_Book_tell) = true
  a_BlockFailed_init : Addr
  fd_BlockFailed_init : FuncData
  F_BlockFailed_init : Fun K "__init__" "BlockFailed.__init__" s_BlockFailed_init a_BlockFailed_init fd_BlockFailed_init
  bd_BlockFailed_init : Binds K fd_BlockFailed_init ["self", "block"] []
  k_BlockFailed_init : PySem.W.keepIn K (.ref a_BlockFailed_init) = true
  a_NotClear_init : Addr
  fd_NotClear_init : FuncData
  F_NotClear_init : Fun K "__init__" "NotClear.__init__" s_NotClear_init a_NotClear_init fd_NotClear_init
  bd_NotClear_init : Binds K fd_NotClear_init ["self", "page"] []
  k_NotClear_init : PySem.W.keepIn K (.ref a_NotClear_init) = true
  a_is_whole : Addr
  fd_is_whole : FuncData
  F_is_whole : Fun K "is_whole" "is_whole" s_is_whole a_is_whole fd_is_whole
  bd_is_whole : Binds K fd_is_whole ["thing"] []
  k_is_whole : PySem.W.keepIn K (.ref a_is_whole) = true
  g_is_whole : mg "is_whole" = some (.ref a_is_whole)
  a_is_within : Addr
  fd_is_within : FuncData
  F_is_within : Fun K "is_within" "is_within" s_is_within a_is_within fd_is_within
  bd_is_within : Binds K fd_is_within ["thing", "low", "high"] []
  k_is_within : PySem.W.keepIn K (.ref a_is_within) = true
  g_is_within : mg "is_within" = some (.ref a_is_within)
  a_rows_by_stamp : Addr
  fd_rows_by_stamp : FuncData
  F_rows_by_stamp : Fun K "rows_by_stamp" "rows_by_stamp" s_rows_by_stamp a_rows_by_stamp fd_rows_by_stamp
  bd_rows_by_stamp : Binds K fd_rows_by_stamp ["chip"] []
  k_rows_by_stamp : PySem.W.keepIn K (.ref a_rows_by_stamp) = true
  g_rows_by_stamp : mg "rows_by_stamp" = some (.ref a_rows_by_stamp)
  a_stamp_of_roll : Addr
  fd_stamp_of_roll : FuncData
  F_stamp_of_roll : Fun K "stamp_of_roll" "stamp_of_roll" s_stamp_of_roll a_stamp_of_roll fd_stamp_of_roll
  bd_stamp_of_roll : Binds K fd_stamp_of_roll ["rows"] []
  k_stamp_of_roll : PySem.W.keepIn K (.ref a_stamp_of_roll) = true
  g_stamp_of_roll : mg "stamp_of_roll" = some (.ref a_stamp_of_roll)
  a_book_of : Addr
  fd_book_of : FuncData
  F_book_of : Fun K "book_of" "book_of" s_book_of a_book_of fd_book_of
  bd_book_of : Binds K fd_book_of ["chip"] []
  k_book_of : PySem.W.keepIn K (.ref a_book_of) = true
  g_book_of : mg "book_of" = some (.ref a_book_of)
  a_fault : Addr
  fd_fault : FuncData
  F_fault : Fun K "fault" "fault" s_fault a_fault fd_fault
  bd_fault : Binds K fd_fault ["chip", "book", "sheet", "page"] []
  k_fault : PySem.W.keepIn K (.ref a_fault) = true
  g_fault : mg "fault" = some (.ref a_fault)
  a_faults : Addr
  fd_faults : FuncData
  F_faults : Fun K "faults" "faults" s_faults a_faults fd_faults
  bd_faults : Binds K fd_faults ["chip", "told"] []
  k_faults : PySem.W.keepIn K (.ref a_faults) = true
  g_faults : mg "faults" = some (.ref a_faults)
  a_endurance : Addr
  fd_endurance : FuncData
  F_endurance : Fun K "endurance" "endurance" s_endurance a_endurance fd_endurance
  bd_endurance : Binds K fd_endurance ["blocks", "ills"] []
  k_endurance : PySem.W.keepIn K (.ref a_endurance) = true
  g_endurance : mg "endurance" = some (.ref a_endurance)
  a_Chip_init : Addr
  fd_Chip_init : FuncData
  F_Chip_init : FunD K "__init__" "Chip.__init__" (defArgs s_Chip_init) (defBody s_Chip_init) (defScope s_Chip_init) dfl_Chip_init [] a_Chip_init fd_Chip_init
  ds2_Chip_init : List Value
  dv2_Chip_init : Vals (dfl_Chip_init.drop 0) ds2_Chip_init
  bd2_Chip_init : Binds K fd_Chip_init ["self", "blocks", "pages", "most", "ills"] ds2_Chip_init
  k_Chip_init : PySem.W.keepIn K (.ref a_Chip_init) = true
  a_Chip_need_page : Addr
  fd_Chip_need_page : FuncData
  F_Chip_need_page : Fun K "need_page" "Chip.need_page" s_Chip_need_page a_Chip_need_page fd_Chip_need_page
  bd_Chip_need_page : Binds K fd_Chip_need_page ["self", "page"] []
  k_Chip_need_page : PySem.W.keepIn K (.ref a_Chip_need_page) = true
  a_Chip_need_block : Addr
  fd_Chip_need_block : FuncData
  F_Chip_need_block : Fun K "need_block" "Chip.need_block" s_Chip_need_block a_Chip_need_block fd_Chip_need_block
  bd_Chip_need_block : Binds K fd_Chip_need_block ["self", "block"] []
  k_Chip_need_block : PySem.W.keepIn K (.ref a_Chip_need_block) = true
  a_Chip_need_power : Addr
  fd_Chip_need_power : FuncData
  F_Chip_need_power : Fun K "need_power" "Chip.need_power" s_Chip_need_power a_Chip_need_power fd_Chip_need_power
  bd_Chip_need_power : Binds K fd_Chip_need_power ["self"] []
  k_Chip_need_power : PySem.W.keepIn K (.ref a_Chip_need_power) = true
  a_Chip_need_good : Addr
  fd_Chip_need_good : FuncData
  F_Chip_need_good : Fun K "need_good" "Chip.need_good" s_Chip_need_good a_Chip_need_good fd_Chip_need_good
  bd_Chip_need_good : Binds K fd_Chip_need_good ["self", "block"] []
  k_Chip_need_good : PySem.W.keepIn K (.ref a_Chip_need_good) = true
  a_Chip_goes_well : Addr
  fd_Chip_goes_well : FuncData
  F_Chip_goes_well : Fun K "goes_well" "Chip.goes_well" s_Chip_goes_well a_Chip_goes_well fd_Chip_goes_well
  bd_Chip_goes_well : Binds K fd_Chip_goes_well ["self", "block", "worn"] []
  k_Chip_goes_well : PySem.W.keepIn K (.ref a_Chip_goes_well) = true
  a_Chip_put : Addr
  fd_Chip_put : FuncData
  F_Chip_put : Fun K "put" "Chip.put" s_Chip_put a_Chip_put fd_Chip_put
  bd_Chip_put : Binds K fd_Chip_put ["self", "page", "stuff"] []
  k_Chip_put : PySem.W.keepIn K (.ref a_Chip_put) = true
  a_Chip_read : Addr
  fd_Chip_read : FuncData
  F_Chip_read : Fun K "read" "Chip.read" s_Chip_read a_Chip_read fd_Chip_read
  bd_Chip_read : Binds K fd_Chip_read ["self", "page"] []
  k_Chip_read : PySem.W.keepIn K (.ref a_Chip_read) = true
  a_Chip_is_dark : Addr
  fd_Chip_is_dark : FuncData
  F_Chip_is_dark : Fun K "is_dark" "Chip.is_dark" s_Chip_is_dark a_Chip_is_dark fd_Chip_is_dark
  bd_Chip_is_dark : Binds K fd_Chip_is_dark ["self"] []
  k_Chip_is_dark : PySem.W.keepIn K (.ref a_Chip_is_dark) = true
  a_Chip_failed : Addr
  fd_Chip_failed : FuncData
  F_Chip_failed : Fun K "failed" "Chip.failed" s_Chip_failed a_Chip_failed fd_Chip_failed
  bd_Chip_failed : Binds K fd_Chip_failed ["self", "block"] []
  k_Chip_failed : PySem.W.keepIn K (.ref a_Chip_failed) = true
  a_Chip_deeds : Addr
  fd_Chip_deeds : FuncData
  F_Chip_deeds : Fun K "deeds" "Chip.deeds" s_Chip_deeds a_Chip_deeds fd_Chip_deeds
  bd_Chip_deeds : Binds K fd_Chip_deeds ["self"] []
  k_Chip_deeds : PySem.W.keepIn K (.ref a_Chip_deeds) = true
  a__law_cell_at : Addr
  fd__law_cell_at : FuncData
  F__law_cell_at : Fun K "_law_cell_at" "_law_cell_at" s__law_cell_at a__law_cell_at fd__law_cell_at
  bd__law_cell_at : Binds K fd__law_cell_at ["_law_script", "_law_k"] []
  k__law_cell_at : PySem.W.keepIn K (.ref a__law_cell_at) = true
  g__law_cell_at : mg "_law_cell_at" = some (.ref a__law_cell_at)
  a__law_mix : Addr
  fd__law_mix : FuncData
  F__law_mix : Fun K "_law_mix" "_law_mix" s__law_mix a__law_mix fd__law_mix
  bd__law_mix : Binds K fd__law_mix ["_law_cell", "_law_k"] []
  k__law_mix : PySem.W.keepIn K (.ref a__law_mix) = true
  g__law_mix : mg "_law_mix" = some (.ref a__law_mix)
  a__law_newest : Addr
  fd__law_newest : FuncData
  F__law_newest : Fun K "_law_newest" "_law_newest" s__law_newest a__law_newest fd__law_newest
  bd__law_newest : Binds K fd__law_newest ["_law_chip", "_law_size"] []
  k__law_newest : PySem.W.keepIn K (.ref a__law_newest) = true
  g__law_newest : mg "_law_newest" = some (.ref a__law_newest)
  a__law_found : Addr
  fd__law_found : FuncData
  F__law_found : Fun K "_law_found" "_law_found" s__law_found a__law_found fd__law_found
  bd__law_found : Binds K fd__law_found ["_law_chip", "_law_size"] []
  k__law_found : PySem.W.keepIn K (.ref a__law_found) = true
  g__law_found : mg "_law_found" = some (.ref a__law_found)
  a__law_name : Addr
  fd__law_name : FuncData
  F__law_name : Fun K "_law_name" "_law_name" s__law_name a__law_name fd__law_name
  bd__law_name : Binds K fd__law_name ["_law_k", "_law_way"] []
  k__law_name : PySem.W.keepIn K (.ref a__law_name) = true
  g__law_name : mg "_law_name" = some (.ref a__law_name)
  a__law_bits : Addr
  fd__law_bits : FuncData
  F__law_bits : Fun K "_law_bits" "_law_bits" s__law_bits a__law_bits fd__law_bits
  bd__law_bits : Binds K fd__law_bits ["_law_cell", "_law_way"] []
  k__law_bits : PySem.W.keepIn K (.ref a__law_bits) = true
  g__law_bits : mg "_law_bits" = some (.ref a__law_bits)
  a__law_lay : Addr
  fd__law_lay : FuncData
  F__law_lay : Fun K "_law_lay" "_law_lay" s__law_lay a__law_lay fd__law_lay
  bd__law_lay : Binds K fd__law_lay ["_law_chip", "_law_script", "_law_blocks", "_law_pages", "_law_way"] []
  k__law_lay : PySem.W.keepIn K (.ref a__law_lay) = true
  g__law_lay : mg "_law_lay" = some (.ref a__law_lay)
  a__law_page : Addr
  fd__law_page : FuncData
  F__law_page : Fun K "_law_page" "_law_page" s__law_page a__law_page fd__law_page
  bd__law_page : Binds K fd__law_page ["_law_cell", "_law_size"] []
  k__law_page : PySem.W.keepIn K (.ref a__law_page) = true
  g__law_page : mg "_law_page" = some (.ref a__law_page)
  a__law_spoiled : Addr
  fd__law_spoiled : FuncData
  F__law_spoiled : Fun K "_law_spoiled" "_law_spoiled" s__law_spoiled a__law_spoiled fd__law_spoiled
  bd__law_spoiled : Binds K fd__law_spoiled ["_law_told", "_law_cell", "_law_size", "_law_way"] []
  k__law_spoiled : PySem.W.keepIn K (.ref a__law_spoiled) = true
  g__law_spoiled : mg "_law_spoiled" = some (.ref a__law_spoiled)
  a__law_sort : Addr
  fd__law_sort : FuncData
  F__law_sort : Fun K "_law_sort" "_law_sort" s__law_sort a__law_sort fd__law_sort
  bd__law_sort : Binds K fd__law_sort ["_law_chip", "_law_size", "_law_found_here", "_law_sheet", "_law_page_here"] []
  k__law_sort : PySem.W.keepIn K (.ref a__law_sort) = true
  g__law_sort : mg "_law_sort" = some (.ref a__law_sort)
  a__law_due : Addr
  fd__law_due : FuncData
  F__law_due : Fun K "_law_due" "_law_due" s__law_due a__law_due fd__law_due
  bd__law_due : Binds K fd__law_due ["_law_chip", "_law_size", "_law_found_here", "_law_told"] []
  k__law_due : PySem.W.keepIn K (.ref a__law_due) = true
  g__law_due : mg "_law_due" = some (.ref a__law_due)
  a_law : Addr
  fd_law : FuncData
  F_law : Fun K "law" "law" s_law a_law fd_law
  bd_law : Binds K fd_law ["_law_script"] []
  k_law : PySem.W.keepIn K (.ref a_law) = true
  C_Book : Addr
  g_Book : mg "Book" = some (.ref C_Book)
  cl_Book : Cls K C_Book
  na_Book_blocks : NoAttr K C_Book "blocks"
  na_Book_pages : NoAttr K C_Book "pages"
  na_Book_where : NoAttr K C_Book "where"
  na_Book_names : NoAttr K C_Book "names"
  na_Book_live : NoAttr K C_Book "live"
  na_Book_filled : NoAttr K C_Book "filled"
  na_Book_born : NoAttr K C_Book "born"
  na_Book_stamp : NoAttr K C_Book "stamp"
  mk_Book : Mk K C_Book a_Book_init
  m_Book_start_at : Meth K C_Book "start_at" a_Book_start_at
  m_Book_mark : Meth K C_Book "mark" a_Book_mark
  m_Book_note : Meth K C_Book "note" a_Book_note
  m_Book_forget : Meth K C_Book "forget" a_Book_forget
  m_Book_held : Meth K C_Book "held" a_Book_held
  m_Book_tell : Meth K C_Book "tell" a_Book_tell
  C_Chip : Addr
  g_Chip : mg "Chip" = some (.ref C_Chip)
  cl_Chip : Cls K C_Chip
  na_Chip_blocks : NoAttr K C_Chip "blocks"
  na_Chip_pages : NoAttr K C_Chip "pages"
  na_Chip_most : NoAttr K C_Chip "most"
  na_Chip_lasts : NoAttr K C_Chip "lasts"
  na_Chip_stuff : NoAttr K C_Chip "stuff"
  na_Chip_tried : NoAttr K C_Chip "tried"
  na_Chip_clearings : NoAttr K C_Chip "clearings"
  na_Chip_broken : NoAttr K C_Chip "broken"
  na_Chip_left : NoAttr K C_Chip "left"
  na_Chip_log : NoAttr K C_Chip "log"
  mk_Chip : Mk K C_Chip a_Chip_init
  m_Chip_need_page : Meth K C_Chip "need_page" a_Chip_need_page
  m_Chip_need_block : Meth K C_Chip "need_block" a_Chip_need_block
  m_Chip_need_power : Meth K C_Chip "need_power" a_Chip_need_power
  m_Chip_need_good : Meth K C_Chip "need_good" a_Chip_need_good
  m_Chip_goes_well : Meth K C_Chip "goes_well" a_Chip_goes_well
  m_Chip_put : Meth K C_Chip "put" a_Chip_put
  m_Chip_read : Meth K C_Chip "read" a_Chip_read
  m_Chip_is_dark : Meth K C_Chip "is_dark" a_Chip_is_dark
  m_Chip_failed : Meth K C_Chip "failed" a_Chip_failed
  m_Chip_deeds : Meth K C_Chip "deeds" a_Chip_deeds
  C_WornError : Addr
  g_WornError : mg "WornError" = some (.ref C_WornError)
  xc_WornError : XC K C_WornError
  C_NoChip : Addr
  g_NoChip : mg "NoChip" = some (.ref C_NoChip)
  xc_NoChip : XC K C_NoChip
  C_NoPlace : Addr
  g_NoPlace : mg "NoPlace" = some (.ref C_NoPlace)
  xc_NoPlace : XC K C_NoPlace
  C_PowerGone : Addr
  g_PowerGone : mg "PowerGone" = some (.ref C_PowerGone)
  xc_PowerGone : XC K C_PowerGone
  C_BlockFailed : Addr
  g_BlockFailed : mg "BlockFailed" = some (.ref C_BlockFailed)
  xi_BlockFailed : XI K C_BlockFailed a_BlockFailed_init
  nx_BlockFailed_block : PySem.W.findIn K (.ref C_BlockFailed) "block" = some none
  C_NotClear : Addr
  g_NotClear : mg "NotClear" = some (.ref C_NotClear)
  xi_NotClear : XI K C_NotClear a_NotClear_init
  nx_NotClear_page : PySem.W.findIn K (.ref C_NotClear) "page" = some none
  wi_WornError : WInit K C_WornError
  b_len : mg "len" = none
  b_isinstance : mg "isinstance" = none
  b_min : mg "min" = none
  b_sorted : mg "sorted" = none
  b_int : mg "int" = none
  b_str : mg "str" = none
  b_list : mg "list" = none
  b_bool : mg "bool" = none
  b_range : mg "range" = none
  b_ValueError : mg "ValueError" = none
  u_ROLL : Value
  g_ROLL : mg "ROLL" = some u_ROLL
  r_ROLL : RelV (V.int (64)) u_ROLL
  u_MANY : Value
  g_MANY : mg "MANY" = some u_MANY
  r_MANY : RelV (V.int (16)) u_MANY
  u_MOST : Value
  g_MOST : mg "MOST" = some u_MOST
  r_MOST : RelV (V.int (1000000)) u_MOST
local macro_rules | `(tactic| walk_at "cls") => `(tactic| first | assumption | exact (show Txt _ _ by assumption).cl_Book | exact (show Txt _ _ by assumption).cl_Chip)
local macro_rules | `(tactic| walk_at "na") => `(tactic| first | assumption | exact (show Txt _ _ by assumption).na_Book_blocks | exact (show Txt _ _ by assumption).na_Book_pages | exact (show Txt _ _ by assumption).na_Book_where | exact (show Txt _ _ by assumption).na_Book_names | exact (show Txt _ _ by assumption).na_Book_live | exact (show Txt _ _ by assumption).na_Book_filled | exact (show Txt _ _ by assumption).na_Book_born | exact (show Txt _ _ by assumption).na_Book_stamp | exact (show Txt _ _ by assumption).na_Chip_blocks | exact (show Txt _ _ by assumption).na_Chip_pages | exact (show Txt _ _ by assumption).na_Chip_most | exact (show Txt _ _ by assumption).na_Chip_lasts | exact (show Txt _ _ by assumption).na_Chip_stuff | exact (show Txt _ _ by assumption).na_Chip_tried | exact (show Txt _ _ by assumption).na_Chip_clearings | exact (show Txt _ _ by assumption).na_Chip_broken | exact (show Txt _ _ by assumption).na_Chip_left | exact (show Txt _ _ by assumption).na_Chip_log)
section
variable {P : Program} {w : World} {K : PySem.W.Frag} {mg : Str → Option Value} {base : Heap}
abbrev FO (P : Program) (w : World) (K : PySem.W.Frag) (mg : Str → Option Value) (base : Heap) := FnOk P w K mg base (L2.CX P w)
/-! ### the law's reader -/
def cl (ns : List Int) (k : Int) : Int := ns.getD k.toNat 0
def spCell (K : PySem.W.Frag) : Sp := fun vs H Q _ => ∃ (a : Addr) (ns : List Int) (k : Int), vs = [.ref a, .int k] ∧ SqL K H a (ns.map V.int) ∧ 0 ≤ k ∧ Q (.int (cl ns k)) H
theorem ok_cell_at (T : Txt K mg) : FO P w K mg base 1 T.a__law_cell_at T.fd__law_cell_at ["_law_script", "_law_k"] (spCell K) := by
  have sc := sc__law_cell_at
  refine T.F__law_cell_at.okX sc (fun vs H Q E h => ?_) (fun cdv A outer s H vs Q E hr h => ?_)
  · obtain ⟨a, ns, k, rfl, _⟩ := h
    rfl
  · obtain ⟨a, ns, k, rfl, hS, h0, q⟩ := h
    refine ⟨_, (pss_cons (ps_if (pt_cmpR op_uLt (pv 1) (pe_callB (cr_ulen) (by rfl) T.b_len bt_len (pa_cons (pv 0) pa_nil)) (nomark _)) (pss_one (ps_ret (pe_ix ix_seq (pv 0) (pv 1) (fun _ _ => rfl)))) pss_nil)
      (pss_one (ps_ret pe_int))), ?_⟩
    walk_at "begin"
    walk_at "if"
    refine x_iteD (fun h => ?_) (fun h => ?_)
    · walk_at "go"
      exact q
    · walk_at "go"
      have e : cl ns k = 0 := by
        unfold cl
        rw [List.getD_eq_getElem?_getD, List.getElem?_eq_none (by omega)]
        rfl
      rw [e] at q
      exact q
theorem x_cell {H : Hp} {Q : VK} {E : XK} {a : Addr} {ns : List Int} {k : Int} (h : SqL K H a (ns.map V.int)) (q : Q (.int (cl ns k)) H) (h0 : 0 ≤ k) : spCell K [.ref a, .int k] H Q E := ⟨a, ns, k, rfl, h, h0, q⟩
local macro_rules | `(tactic| walk_at "u") => `(tactic| ((with_reducible refine' x_cell ?hq ?_ ?h0); (case hq => walk_at "sq"); (try (case h0 => walk_at "side"))))
/-- a value that is no whole number, of a kind that is met here -/
def NotI (K : PySem.W.Frag) (H : Hp) (v : V) : Prop := v = .non ∨ (∃ b, v = .bl b) ∨ (∃ s, v = .str s) ∨ ∃ p, v = .ref p ∧ (TyX K H v (.type "list") ∨ TyX K H v (.type "tuple"))
/-! ### whole numbers -/
def spWhole (K : PySem.W.Frag) : Sp := fun vs H Q _ => ∃ v, vs = [v] ∧ ((∃ n, v = .int n ∧ Q (.bl true) H) ∨ (NotI K H v ∧ Q (.bl false) H))
theorem x_whole {H : Hp} {Q : VK} {E : XK} {n : Int} (q : Q (.bl true) H) : spWhole K [.int n] H Q E := ⟨_, rfl, .inl ⟨n, rfl, q⟩⟩
theorem x_wholeN {H : Hp} {Q : VK} {E : XK} {v : V} (h : NotI K H v) (q : Q (.bl false) H) : spWhole K [v] H Q E := ⟨_, rfl, .inr ⟨h, q⟩⟩
local macro_rules | `(tactic| walk_at "u") => `(tactic| first | (with_reducible refine x_whole ?_) | (with_reducible refine x_wholeN (by assumption) ?_))
theorem ok_is_whole (T : Txt K mg) : FO P w K mg base 1 T.a_is_whole T.fd_is_whole ["thing"] (spWhole K) := by
  have sc := sc_is_whole
  refine T.F_is_whole.okX sc (fun vs H Q E h => ?_) (fun cdv A outer s H vs Q E hr h => ?_)
  · obtain ⟨v, rfl, _⟩ := h
    rfl
  · obtain ⟨v, rfl, h⟩ := h
    refine ⟨_, (pss_one (ps_ret (pe_andT (pe_callB (cr_uisinstance) (by rfl) T.b_isinstance bt_isinstance (pa_cons (pv 0) (pa_cons (pe_bltn (v := .ty "int") (by rfl) T.b_int bt_int rfl) pa_nil))) (pe_one (pe_notT (pe_callB (cr_uisinstance) (by rfl) T.b_isinstance bt_isinstance (pa_cons (pv 0) (pa_cons (pe_bltn (v := .ty "bool") (by rfl) T.b_bool bt_bool rfl) pa_nil)))))))), ?_⟩
    walk_at "begin"
    walk_at "go"
    rcases h with ⟨n, rfl, q⟩ | ⟨h, q⟩
    · walk_at "go"
      exact q
    · rcases h with rfl | ⟨b, rfl⟩ | ⟨z, rfl⟩ | ⟨p, rfl, h⟩
      · walk_at "go"
        exact q
      · walk_at "go"
        exact q
      · walk_at "go"
        exact q
      · rcases h with h | h
        · refine x_isiR h (b := false) (by decide +kernel) ?_
          walk_at "go"
          exact q
        · refine x_isiR h (b := false) (by decide +kernel) ?_
          walk_at "go"
          exact q
def spWithin (K : PySem.W.Frag) : Sp := fun vs H Q _ => ∃ v lo hi, vs = [v, .int lo, .int hi] ∧ ((∃ n, v = .int n ∧ Q (.bl (decide (lo ≤ n ∧ n ≤ hi))) H) ∨ (NotI K H v ∧ Q (.bl false) H))
theorem x_within {H : Hp} {Q : VK} {E : XK} {n lo hi : Int} (q : Q (.bl (decide (lo ≤ n ∧ n ≤ hi))) H) : spWithin K [.int n, .int lo, .int hi] H Q E := ⟨_, _, _, rfl, .inl ⟨n, rfl, q⟩⟩
theorem x_withinN {H : Hp} {Q : VK} {E : XK} {v : V} {lo hi : Int} (h : NotI K H v) (q : Q (.bl false) H) : spWithin K [v, .int lo, .int hi] H Q E := ⟨_, _, _, rfl, .inr ⟨h, q⟩⟩
local macro_rules | `(tactic| walk_at "u") => `(tactic| first | (with_reducible refine x_within ?_) | (with_reducible refine x_withinN (by assumption) ?_))
theorem ok_is_within (T : Txt K mg) : FO P w K mg base 2 T.a_is_within T.fd_is_within ["thing", "low", "high"] (spWithin K) := by
  have sc := sc_is_within
  refine T.F_is_within.okX sc (fun vs H Q E h => ?_) (fun cdv A outer s H vs Q E hr h => ?_)
  · obtain ⟨v, lo, hi, rfl, _⟩ := h
    rfl
  · obtain ⟨v, lo, hi, rfl, h⟩ := h
    refine ⟨_, (pss_one (ps_ret (pe_andT (pe_callS (ok_is_whole T) (hr.mono (by decide)) (by rfl) T.g_is_whole T.k_is_whole T.bd_is_whole (passAt (takes_of rfl rfl rfl rfl)) (pa_cons (pv 0) pa_nil)) (pe_one (pe_chain op_le op_le (pv 1) (pv 0) (pv 2)))))), ?_⟩
    walk_at "begin"
    walk_at "go"
    rcases h with ⟨n, rfl, q⟩ | ⟨h, q⟩
    · walk_at "go"
      refine x_iteD (fun h => ?_) (fun h => ?_)
      · walk_at "go"
        have e : decide (n ≤ hi) = decide (lo ≤ n ∧ n ≤ hi) := by simp [h]
        rw [e]
        exact q
      · walk_at "go"
        have e : false = decide (lo ≤ n ∧ n ≤ hi) := by simp [h]
        rw [← e] at q
        exact q
    · walk_at "go"
      exact q
/-! ### values that may be numbers -/
def NotS (v : V) : Prop := v = .non ∨ (∃ b, v = .bl b) ∨ ∃ s, v = .str s
theorem NotS.to {H : Hp} {v : V} (h : NotS v) : NotI K H v := by
  rcases h with h | h | h
  · exact .inl h
  · exact .inr (.inl h)
  · exact .inr (.inr (.inl h))
inductive Num : V → Option Int → Prop
  | int (n : Int) : Num (.int n) (some n)
  | no (v : V) : NotS v → Num v none
def inB (o : Option Int) (lo hi : Int) : Bool := match o with
  | some n => decide (lo ≤ n ∧ n ≤ hi)
  | none => false
theorem x_wNum {H : Hp} {Q : VK} {E : XK} {v : V} {o : Option Int} {lo hi : Int} (h : Num v o) (q : Q (.bl (inB o lo hi)) H) : spWithin K [v, .int lo, .int hi] H Q E := by
  cases h with
  | int n => exact ⟨_, _, _, rfl, .inl ⟨n, rfl, q⟩⟩
  | no v h => exact ⟨_, _, _, rfl, .inr ⟨h.to, q⟩⟩
theorem Num.of_inB {v : V} {o : Option Int} {lo hi : Int} (h : Num v o) (e : inB o lo hi = true) : ∃ n, v = .int n ∧ o = some n ∧ lo ≤ n ∧ n ≤ hi := by
  cases h with
  | int n => exact ⟨n, rfl, rfl, of_decide_eq_true e⟩
  | no v h => cases e
/-! ### pairs of numbers as data -/
def prD (e : Int × Int) : PyData := .tuple [.int e.1, .int e.2]
theorem prD_sh {k : Nat} (e : Int × Int) : Sh (k + 1) (prD e) := Sh.tup fun d h => by
  simp only [List.mem_cons, List.not_mem_nil, or_false] at h
  rcases h with rfl | rfl <;> exact Sh.int
theorem _root_.Kit.PairL.dp {K : PySem.W.Frag} {H : Hp} {q : Addr} {ws : List V} {is : List (Int × Int)} (h : PairL H ws is) (hq : H q = some (.lst ws)) : Dp K H (.ref q) (.list (is.map prD)) := by
  refine .lst (SqL.of hq) (dpAll_of (by rw [List.length_map]; exact h.1) fun i v d h1 h2 => ?_)
  rw [List.getElem?_map] at h2
  cases e : is[i]? with
  | none => rw [e] at h2; simp at h2
  | some t =>
    rw [e] at h2
    simp at h2
    subst h2
    obtain ⟨a, rfl, ha⟩ := h.2 i v t h1 e
    exact .tup (SqT.of ha) (.cons (.int _) (.cons (.int _) .nil))
theorem prsSh {k : Nat} {is : List (Int × Int)} : Sh (k + 2) (.list (is.map prD)) := Sh.list (k := k + 1) fun d h => by
  obtain ⟨e, _, rfl⟩ := List.mem_map.mp h
  exact prD_sh e
/-! ### the chip -/
structure Cs where
  b : Int
  p : Int
  m : Int
  lasts : List V
  stuff : List V
  tried : List Int
  clr : List Int
  broken : List Bool
  left : Option Int
  log : List (Str × Int × Bool)
structure CF where
  dx : Addr
  la : Addr
  st : Addr
  tr : Addr
  cl : Addr
  br : Addr
  lg : Addr
def lv : Option Int → V
  | none => .non
  | some n => .int n
def chipF (F : CF) (c : Cs) : List (Str × V) := [("blocks", .int c.b), ("pages", .int c.p), ("most", .int c.m), ("lasts", .ref F.la), ("stuff", .ref F.st), ("tried", .ref F.tr), ("clearings", .ref F.cl), ("broken", .ref F.br), ("left", lv c.left), ("log", .ref F.lg)]
def LogAt (H : Hp) (v : V) (e : Str × Int × Bool) : Prop := ∃ a, v = .ref a ∧ H a = some (.tup [.str e.1, .int e.2.1, .bl e.2.2])
def LogAll (H : Hp) (vs : List V) (es : List (Str × Int × Bool)) : Prop := vs.length = es.length ∧ ∀ (i : Nat) v e, vs[i]? = some v → es[i]? = some e → LogAt H v e
structure Sizes (c : Cs) : Prop where
  b : 2 ≤ c.b ∧ c.b ≤ 16
  p : 1 ≤ c.p ∧ c.p ≤ 16
  m : 0 ≤ c.m ∧ c.m ≤ 1000000
  lasts : (c.lasts.length : Int) = c.b
  stuff : (c.stuff.length : Int) = c.b * c.p
  tried : (c.tried.length : Int) = c.b
  clr : (c.clr.length : Int) = c.b
  broken : (c.broken.length : Int) = c.b
  lsc : ∀ x ∈ c.lasts, x = .non ∨ ∃ n : Int, x = .int n
def CF.all (F : CF) (r : Addr) : List Addr := [r, F.la, F.st, F.tr, F.cl, F.br, F.lg]
structure ChipAt (C : Addr) (H : Hp) (r : Addr) (F : CF) (c : Cs) : Prop where
  obj : H r = some (.ins C F.dx (chipF F c))
  la : H F.la = some (.lst c.lasts)
  st : H F.st = some (.lst c.stuff)
  tr : H F.tr = some (.lst (c.tried.map V.int))
  cl : H F.cl = some (.lst (c.clr.map V.int))
  br : H F.br = some (.lst (c.broken.map V.bl))
  lg : ∃ vs, H F.lg = some (.lst vs) ∧ LogAll H vs c.log
  nd : (CF.all F r).Nodup
  sz : Sizes c
theorem LogAll.mono {H H' : Hp} {vs : List V} {es : List (Str × Int × Bool)} (s : TupS H H') (h : LogAll H vs es) : LogAll H' vs es := ⟨h.1, fun i v e h1 h2 => by
  obtain ⟨a, q, h⟩ := h.2 i v e h1 h2
  exact ⟨a, q, s _ _ h⟩⟩
theorem ChipAt.mono {C : Addr} {H H' : Hp} {r : Addr} {F : CF} {c : Cs} (s : Same H H') (h : ChipAt C H r F c) : ChipAt C H' r F c := by
  obtain ⟨vs, e, l⟩ := h.lg
  exact ⟨s _ _ h.obj, s _ _ h.la, s _ _ h.st, s _ _ h.tr, s _ _ h.cl, s _ _ h.br, ⟨vs, s _ _ e, l.mono (TupS.of s)⟩, h.nd, h.sz⟩
/-- the addresses of a chip are unlike -/
theorem ChipAt.ne {C : Addr} {H : Hp} {r : Addr} {F : CF} {c : Cs} (h : ChipAt C H r F c) : (r ≠ F.la ∧ r ≠ F.st ∧ r ≠ F.tr ∧ r ≠ F.cl ∧ r ≠ F.br ∧ r ≠ F.lg) ∧ (F.la ≠ F.st ∧ F.la ≠ F.tr ∧ F.la ≠ F.cl ∧ F.la ≠ F.br ∧ F.la ≠ F.lg) ∧ (F.st ≠ F.tr ∧ F.st ≠ F.cl ∧ F.st ≠ F.br ∧ F.st ≠ F.lg) ∧ (F.tr ≠ F.cl ∧ F.tr ≠ F.br ∧ F.tr ≠ F.lg) ∧ (F.cl ≠ F.br ∧ F.cl ≠ F.lg) ∧ F.br ≠ F.lg := by
  have d := h.nd
  unfold CF.all at d
  simp only [List.nodup_cons, List.mem_cons, List.not_mem_nil, or_false, not_or, not_false_eq_true, List.nodup_nil, and_true] at d
  exact ⟨d.1, d.2.1, d.2.2.1, d.2.2.2.1, d.2.2.2.2.1, d.2.2.2.2.2⟩
/-- tuples stay where a chip changes -/
theorem ChipAt.tups {C : Addr} {H H' : Hp} {r : Addr} {F : CF} {c : Cs} (h : ChipAt C H r F c) (s : Off (F.all r) H H') : TupS H H' := fun a xs e => by
  refine s a _ (fun m => ?_) e
  obtain ⟨vs, e7, _⟩ := h.lg
  unfold CF.all at m
  simp only [List.mem_cons, List.not_mem_nil, or_false] at m
  rcases m with rfl | rfl | rfl | rfl | rfl | rfl | rfl
  · rw [h.obj] at e; cases e
  · rw [h.la] at e; cases e
  · rw [h.st] at e; cases e
  · rw [h.tr] at e; cases e
  · rw [h.cl] at e; cases e
  · rw [h.br] at e; cases e
  · rw [e7] at e; cases e
theorem ChipAt.off {C : Addr} {H H' : Hp} {r : Addr} {F : CF} {c : Cs} {S : List Addr} (h : ChipAt C H r F c) (s : Off S H H') (n : ∀ a, a ∈ F.all r → a ∉ S) (ht : TupS H H') : ChipAt C H' r F c := by
  obtain ⟨vs, e, l⟩ := h.lg
  unfold CF.all at n
  exact ⟨s.at h.obj (n _ (by simp)), s.at h.la (n _ (by simp)), s.at h.st (n _ (by simp)), s.at h.tr (n _ (by simp)), s.at h.cl (n _ (by simp)), s.at h.br (n _ (by simp)), ⟨vs, s.at e (n _ (by simp)), l.mono ht⟩, h.nd, h.sz⟩
/-- a list that is another one's changes: tuples stay -/
theorem _root_.Kit.Off.tupsL {a : Addr} {H H' : Hp} {xs : List V} (s : Off [a] H H') (h : H a = some (.lst xs)) : TupS H H' := fun b ys e => s b _ (fun m => by rw [List.mem_singleton.mp m, h] at e; cases e) e
def Cs.dark (c : Cs) : Bool := decide (c.left = some 0)
/-- how an asking ends -/
inductive Res
  | ok
  | place
  | dark
  | failed (b : Int)
  | clear (n : Int)
  | value
def spDark (C : Addr) : Sp := fun vs H Q _ => ∃ r F c, vs = [.ref r] ∧ ChipAt C H r F c ∧ Q (.bl c.dark) H
theorem lv_eq0 {o : Option Int} : decide (lv o = .int 0) = decide (o = some 0) := by
  cases o with
  | none => rfl
  | some n => rw [decide_eq_decide]; simp [lv]
theorem lv_scal {o : Option Int} {n : Int} : scal (lv o) (.int n) = true := by cases o <;> rfl
theorem ok_Chip_is_dark (T : Txt K mg) : FO P w K mg base 1 T.a_Chip_is_dark T.fd_Chip_is_dark ["self"] (spDark T.C_Chip) := by
  have sc := sc_Chip_is_dark
  refine T.F_Chip_is_dark.okX sc (fun vs H Q E h => ?_) (fun cdv A outer s H vs Q E hr h => ?_)
  · obtain ⟨_, _, _, rfl, _⟩ := h
    rfl
  · obtain ⟨r, F, c, rfl, hC, q⟩ := h
    refine ⟨_, (pss_one (ps_ret (pe_cmpR (op_uEq hr.units) (pe_fld (pv 0) rfl) pe_int (nomark _)))), ?_⟩
    have o := hC.obj
    unfold chipF at o
    walk_at "begin"
    walk_at "go"
    refine x_eqSc lv_scal ?_
    rw [lv_eq0]
    exact q
theorem MO_dark (T : Txt K mg) : MO P w K mg base (L2.CX P w) 1 T.C_Chip "is_dark" (spDark T.C_Chip) := ⟨⟨_, _, _, T.cl_Chip, T.m_Chip_is_dark, ok_Chip_is_dark T, T.bd_Chip_is_dark⟩⟩
theorem x_mDark {T : Txt K mg} {H : Hp} {Q : VK} {E : XK} {σ : L2.St} {r : Addr} {F : CF} {c : Cs} (hC : ChipAt T.C_Chip H r F c) (q : Q (.bl c.dark) H) : mtK P w K mg base (L2.CX P w) 1 "is_dark" E σ tNil Q (.ref r) H :=
  x_mtK hC.obj (MO_dark T) rfl ⟨r, F, c, rfl, hC, q⟩
def spPower (T : Txt K mg) : Sp := fun vs H Q E => ∃ r F c, vs = [.ref r] ∧ ChipAt T.C_Chip H r F c ∧ (c.dark = false → Q .non H) ∧ (c.dark = true → E (.ref T.C_PowerGone) none H)
theorem ok_Chip_need_power (T : Txt K mg) : FO P w K mg base 2 T.a_Chip_need_power T.fd_Chip_need_power ["self"] (spPower T) := by
  have sc := sc_Chip_need_power
  refine T.F_Chip_need_power.okX sc (fun vs H Q E h => ?_) (fun cdv A outer s H vs Q E hr h => ?_)
  · obtain ⟨_, _, _, rfl, _⟩ := h
    rfl
  · obtain ⟨r, F, c, rfl, hC, q1, q2⟩ := h
    refine ⟨_, (pss_one (ps_if (pt_truth (pe_methD0 (k := 1) (pv 0) (hr.mono (by decide)) (passAt (takes_of rfl rfl rfl rfl))) (by intro _; rfl)) (pss_one (ps_raiseK rfl (takes_of rfl rfl rfl rfl) (pmk_ownK T.xc_PowerGone T.g_PowerGone rfl))) pss_nil)), ?_⟩
    walk_at "begin"
    walk_at "go"
    refine x_mDark hC ?_
    walk_at "go"
    refine x_iteB (fun h => ?_) (fun h => ?_)
    · walk_at "go"
      exact q2 h
    · walk_at "go"
      exact q1 h
theorem x_mPower {T : Txt K mg} {H : Hp} {Q : VK} {E : XK} {σ : L2.St} {r : Addr} {F : CF} {c : Cs} (hC : ChipAt T.C_Chip H r F c) (q1 : c.dark = false → Q .non H) (q2 : c.dark = true → E (.ref T.C_PowerGone) none H) : mtK P w K mg base (L2.CX P w) 2 "need_power" E σ tNil Q (.ref r) H :=
  x_mtK hC.obj ⟨⟨_, _, _, T.cl_Chip, T.m_Chip_need_power, ok_Chip_need_power T, T.bd_Chip_need_power⟩⟩ rfl ⟨r, F, c, rfl, hC, q1, q2⟩
def spPage (T : Txt K mg) : Sp := fun vs H Q E => ∃ r F c v o, vs = [.ref r, v] ∧ ChipAt T.C_Chip H r F c ∧ Num v o ∧ (inB o 0 (c.b * c.p - 1) = true → Q .non H) ∧ (inB o 0 (c.b * c.p - 1) = false → E (.ref T.C_NoPlace) none H)
theorem ok_Chip_need_page (T : Txt K mg) : FO P w K mg base 3 T.a_Chip_need_page T.fd_Chip_need_page ["self", "page"] (spPage T) := by
  have sc := sc_Chip_need_page
  refine T.F_Chip_need_page.okX sc (fun vs H Q E h => ?_) (fun cdv A outer s H vs Q E hr h => ?_)
  · obtain ⟨_, _, _, _, _, rfl, _⟩ := h
    rfl
  · obtain ⟨r, F, c, v, o, rfl, hC, hn, q1, q2⟩ := h
    refine ⟨_, (pss_one (ps_if (pt_not (pt_truth (pe_callS (ok_is_within T) (hr.mono (by decide)) (by rfl) T.g_is_within T.k_is_within T.bd_is_within (passAt (takes_of rfl rfl rfl rfl)) (pa_cons (pv 1) (pa_cons pe_int (pa_cons (pe_op op_sub (pe_callB (cr_ulen) (by rfl) T.b_len bt_len (pa_cons (pe_fld (pv 0) rfl) pa_nil)) pe_int) pa_nil)))) (by intro _; rfl))) (pss_one (ps_raiseK rfl (takes_of rfl rfl rfl rfl) (pmk_ownK T.xc_NoPlace T.g_NoPlace rfl))) pss_nil)), ?_⟩
    have ho := hC.obj
    have hst := hC.st
    have hsz := hC.sz.stuff
    unfold chipF at ho
    walk_at "begin"
    walk_at "go"
    rw [hsz]
    refine x_wNum hn ?_
    walk_at "go"
    refine x_iteB (fun h => ?_) (fun h => ?_)
    · walk_at "go"
      exact q1 h
    · walk_at "go"
      exact q2 h
theorem x_mPage {T : Txt K mg} {H : Hp} {Q : VK} {E : XK} {σ : L2.St} {r : Addr} {F : CF} {c : Cs} {t : TA} (hC : ChipAt T.C_Chip H r F c) (h : t σ H fun vs H2 => spPage T (.ref r :: vs) H2 Q E) : mtK P w K mg base (L2.CX P w) 3 "need_page" E σ t Q (.ref r) H :=
  x_mtK hC.obj ⟨⟨_, _, _, T.cl_Chip, T.m_Chip_need_page, ok_Chip_need_page T, T.bd_Chip_need_page⟩⟩ rfl h
theorem x_page {T : Txt K mg} {H : Hp} {Q : VK} {E : XK} {r : Addr} {F : CF} {c : Cs} {v : V} {o : Option Int} (hC : ChipAt T.C_Chip H r F c) (hn : Num v o) (q1 : inB o 0 (c.b * c.p - 1) = true → Q .non H) (q2 : inB o 0 (c.b * c.p - 1) = false → E (.ref T.C_NoPlace) none H) : spPage T [.ref r, v] H Q E := ⟨r, F, c, v, o, rfl, hC, hn, q1, q2⟩
/-! the refusals with a field -/
def SmallI (v : V) : Prop := ∃ n : Int, v = .int n ∧ 0 ≤ n ∧ n < 300
theorem ok_BlockFailed_init (T : Txt K mg) : FO P w K mg base 1 T.a_BlockFailed_init T.fd_BlockFailed_init ["self", "block"] (spXInit K T.C_BlockFailed "block" SmallI) := by
  have sc := sc_BlockFailed_init
  refine T.F_BlockFailed_init.okX sc (fun vs H Q E h => ?_) (fun cdv A outer s H vs Q E hr h => ?_)
  · obtain ⟨_, _, rfl, _⟩ := h
    rfl
  · obtain ⟨a, v, rfl, ⟨n, rfl, h0, h1⟩, o, hn, ha, q⟩ := h
    refine ⟨_, (pss_cons (ps_expr (pe_weinit T.wi_WornError rfl T.g_WornError (pa_cons (pv 0) (pa_cons (pe_op op_uAdd (pe_op op_uAdd pe_str (pe_callTy ct_str (by rfl) T.b_str bt_str (pa_cons (pv 1) pa_nil))) pe_str) pa_nil))))
      (pss_one (ps_ost (pv 0) (pv 1)))), ?_⟩
    have hlog := small_log h0 (by omega : n < 1000000)
    have hlen := str_len h0 h1
    have z1 : (Str.ofString "block ").length + (Str.ofString (toString n)).length ≤ sizeLine := line_len (by
      have e1 : (Str.ofString "block ").length = 6 := by decide
      omega)
    have z2 : (Str.ofString "block " ++ Str.ofString (toString n)).length + (Str.ofString " failed").length ≤ sizeLine := line_len (by
      have e1 : (Str.ofString "block ").length = 6 := by decide
      have e2 : (Str.ofString " failed").length = 7 := by decide
      have e3 : (Str.ofString "block " ++ Str.ofString (toString n)).length = (Str.ofString "block ").length + (Str.ofString (toString n)).length := PySem.Str.length_append _ _
      omega)
    walk_at "begin"
    walk_at "go"
    refine x_veK o ha ?_ (Nat.le_of_ble_eq_true rfl)
    dsimp only
    refine x_ost ?_
    walk_at "go"
    exact ⟨a, _, rfl, o, hn, .inl ⟨ha, q⟩⟩
theorem ok_NotClear_init (T : Txt K mg) : FO P w K mg base 1 T.a_NotClear_init T.fd_NotClear_init ["self", "page"] (spXInit K T.C_NotClear "page" SmallI) := by
  have sc := sc_NotClear_init
  refine T.F_NotClear_init.okX sc (fun vs H Q E h => ?_) (fun cdv A outer s H vs Q E hr h => ?_)
  · obtain ⟨_, _, rfl, _⟩ := h
    rfl
  · obtain ⟨a, v, rfl, ⟨n, rfl, h0, h1⟩, o, hn, ha, q⟩ := h
    refine ⟨_, (pss_cons (ps_expr (pe_weinit T.wi_WornError rfl T.g_WornError (pa_cons (pv 0) (pa_cons (pe_op op_uAdd (pe_op op_uAdd pe_str (pe_callTy ct_str (by rfl) T.b_str bt_str (pa_cons (pv 1) pa_nil))) pe_str) pa_nil))))
      (pss_one (ps_ost (pv 0) (pv 1)))), ?_⟩
    have hlog := small_log h0 (by omega : n < 1000000)
    have hlen := str_len h0 h1
    have z1 : (Str.ofString "page ").length + (Str.ofString (toString n)).length ≤ sizeLine := line_len (by
      have e1 : (Str.ofString "page ").length = 5 := by decide
      omega)
    have z2 : (Str.ofString "page " ++ Str.ofString (toString n)).length + (Str.ofString " is not clear").length ≤ sizeLine := line_len (by
      have e1 : (Str.ofString "page ").length = 5 := by decide
      have e2 : (Str.ofString " is not clear").length = 13 := by decide
      have e3 : (Str.ofString "page " ++ Str.ofString (toString n)).length = (Str.ofString "page ").length + (Str.ofString (toString n)).length := PySem.Str.length_append _ _
      omega)
    walk_at "begin"
    walk_at "go"
    refine x_veK o ha ?_ (Nat.le_of_ble_eq_true rfl)
    dsimp only
    refine x_ost ?_
    walk_at "go"
    exact ⟨a, _, rfl, o, hn, .inl ⟨ha, q⟩⟩
def spGoodB (T : Txt K mg) : Sp := fun vs H Q E => ∃ (r : Addr) (F : CF) (c : Cs) (n : Int), vs = [.ref r, .int n] ∧ ChipAt T.C_Chip H r F c ∧ 0 ≤ n ∧ n < c.b ∧ (c.broken.getD n.toNat false = false → Q .non H) ∧
  (c.broken.getD n.toNat false = true → ∀ d H1, Same H H1 → H d = none → H1 d = some (.xd [("block", .int n)]) → E (.ref T.C_BlockFailed) (some d) H1)
theorem ok_Chip_need_good (T : Txt K mg) : FO P w K mg base 3 T.a_Chip_need_good T.fd_Chip_need_good ["self", "block"] (spGoodB T) := by
  have sc := sc_Chip_need_good
  refine T.F_Chip_need_good.okX sc (fun vs H Q E h => ?_) (fun cdv A outer s H vs Q E hr h => ?_)
  · obtain ⟨_, _, _, _, rfl, _⟩ := h
    rfl
  · obtain ⟨r, F, c, n, rfl, hC, h0, h1, q1, q2⟩ := h
    refine ⟨_, (pss_one (ps_if (pt_truth (pe_ix ix_seq (pe_fld (pv 0) rfl) (pv 1) (fun _ _ => rfl)) (by intro _; rfl)) (pss_one (ps_raiseK rfl (takes_of rfl rfl rfl rfl) (pmk_oex T.xi_BlockFailed.o T.xi_BlockFailed.i T.xi_BlockFailed.t (ok_BlockFailed_init T) (hr.mono (by decide)) T.bd_BlockFailed_init .nil passE0 rfl T.g_BlockFailed (pa_cons (pv 1) pa_nil)))) pss_nil)), ?_⟩
    have ho := hC.obj
    have hbr := hC.br
    have hsz := hC.sz.broken
    have hb := hC.sz.b
    unfold chipF at ho
    walk_at "begin"
    walk_at "go"
    refine x_iteB (fun h => ?_) (fun h => ?_)
    · walk_at "go"
      refine x_moK ⟨n, rfl, h0, by omega⟩ (fun d H1 hd hs hx => q2 h d H1 hs hd hx) T.xi_BlockFailed.o T.nx_BlockFailed_block
    · walk_at "go"
      exact q1 h
theorem x_mGoodB {T : Txt K mg} {H : Hp} {Q : VK} {E : XK} {σ : L2.St} {r : Addr} {F : CF} {c : Cs} {t : TA} (hC : ChipAt T.C_Chip H r F c) (h : t σ H fun vs H2 => spGoodB T (.ref r :: vs) H2 Q E) : mtK P w K mg base (L2.CX P w) 3 "need_good" E σ t Q (.ref r) H :=
  x_mtK hC.obj ⟨⟨_, _, _, T.cl_Chip, T.m_Chip_need_good, ok_Chip_need_good T, T.bd_Chip_need_good⟩⟩ rfl h
/-! a deed begins -/
def Cs.tick (c : Cs) (n : Nat) (well : Bool) : Cs := { c with left := c.left.map (· - 1), tried := c.tried.set n (c.tried.getD n 0 + 1), broken := c.broken.set n (!well) }
def Cs.well (c : Cs) (n : Nat) (worn : Bool) : Bool := !worn && !decide (V.int (c.tried.getD n 0) = c.lasts.getD n .non)
theorem Sizes.tick {c : Cs} (h : Sizes c) (n : Nat) (well : Bool) : Sizes (c.tick n well) := ⟨h.b, h.p, h.m, h.lasts, h.stuff, by show ((c.tried.set _ _).length : Int) = _; rw [List.length_set]; exact h.tried, h.clr, by show ((c.broken.set _ _).length : Int) = _; rw [List.length_set]; exact h.broken, h.lsc⟩
def spGoes (T : Txt K mg) : Sp := fun vs H Q _ => ∃ (r : Addr) (F : CF) (c : Cs) (n : Int) (worn : Bool), vs = [.ref r, .int n, .bl worn] ∧ ChipAt T.C_Chip H r F c ∧ 0 ≤ n ∧ n < c.b ∧
  ∀ H', Off (F.all r) H H' → ChipAt T.C_Chip H' r F (c.tick n.toNat (c.well n.toNat worn)) → Q (.bl (c.well n.toNat worn)) H'
theorem lsc_scal {c : Cs} (h : Sizes c) {n : Nat} (hn : (n : Int) < c.b) {m : Int} : scal (.int m) (c.lasts.getD n .non) = true := by
  have hl := h.lasts
  have hlt : n < c.lasts.length := by omega
  rcases h.lsc _ (List.getElem_mem hlt) with e | ⟨k, e⟩ <;> simp [hlt, e, scal]
theorem ok_Chip_goes_well (T : Txt K mg) : FO P w K mg base 1 T.a_Chip_goes_well T.fd_Chip_goes_well ["self", "block", "worn"] (spGoes T) := by
  have sc := sc_Chip_goes_well
  refine T.F_Chip_goes_well.okX sc (fun vs H Q E h => ?_) (fun cdv A outer s H vs Q E hr h => ?_)
  · obtain ⟨_, _, _, _, _, rfl, _⟩ := h
    rfl
  · obtain ⟨r, F, c, n, worn, rfl, hC, h0, h1, q⟩ := h
    refine ⟨_, (pss_cons (ps_if (pt_cmpR op_uIsNot (pe_fld (pv 0) rfl) pe_non (nomark _)) (pss_one (ps_fldaug (pv 0) pe_int in_sub)) pss_nil)
      (pss_cons (ps_set (i := 3) sc.nd rfl (by first | exact Or.inl rfl | exact Or.inr rfl) (pe_andT (pe_notT (pv 2)) (pe_one (pe_cmpR (op_uNe hr.units) (pe_ix ix_seq (pe_fld (pv 0) rfl) (pv 1) (fun _ _ => rfl)) (pe_ix ix_seq (pe_fld (pv 0) rfl) (pv 1) (fun _ _ => rfl)) (nomark _)))))
      (pss_cons (ps_augS (pe_fld (pv 0) rfl) (pv 1) get_list pe_int ip_add set_list)
      (pss_cons (ps_asg (pe_notT (pv 3)) (pg_sub (pe_fld (pv 0) rfl) (pv 1) set_list))
      (pss_one (ps_ret (pv 3))))))), ?_⟩
    obtain ⟨⟨n1, n2, n3, n4, n5, n6⟩, ⟨n7, n8, n9, n10, n11⟩, ⟨n12, n13, n14, n15⟩, ⟨n16, n17, n18⟩, ⟨n19, n20⟩, n21⟩ := hC.ne
    have ho := hC.obj
    have hla := hC.la
    have hst := hC.st
    have htr := hC.tr
    have hcl := hC.cl
    have hbr := hC.br
    have hsz := hC.sz
    obtain ⟨lvs, hlg, hlog⟩ := hC.lg
    have z1 := hsz.lasts
    have z2 := hsz.tried
    have z3 := hsz.broken
    unfold chipF at ho
    walk_at "begin"
    refine x_join (fun σ' H1 => σ' = [some (.ref r), some (.int n), some (.bl worn), none] ∧ Off [r] H H1 ∧ H1 r = some (.ins T.C_Chip F.dx (chipF F (c.tick n.toNat (c.well n.toNat worn))))) (fun R hR => ?_) ?_
    · walk_at "go"
      cases hl : c.left with
      | none =>
        rw [hl] at ho
        refine iteT ?_
        walk_at "go"
        refine hR _ _ ⟨rfl, Off.refl, ?_⟩
        rw [ho]
        unfold chipF Cs.tick
        rw [hl]
        rfl
      | some m =>
        rw [hl] at ho
        refine iteF ?_
        walk_at "go"
        refine x_faK ho rfl ?_ T.cl_Chip T.na_Chip_left
        walk_at "go"
        refine x_rSub ?_
        refine x_f3O (fs' := chipF F (c.tick n.toNat (c.well n.toNat worn))) ho ?_ (fun H1 hO hI => ?_) (Nat.le_of_ble_eq_true rfl)
        · unfold chipF Cs.tick
          rw [hl]
          rfl
        · exact hR _ _ ⟨rfl, hO, hI⟩
    intro σ' H1 ⟨hσ, hO1, ho1⟩
    subst hσ
    have ho1' := ho1
    unfold chipF at ho1
    refine x_join (fun σ' H' => σ' = [some (.ref r), some (.int n), some (.bl worn), some (.bl (c.well n.toNat worn))] ∧ H' = H1) (fun R hR => ?_) ?_
    · walk_at "go"
      cases worn with
      | true => exact iteT (hR _ _ ⟨rfl, rfl⟩)
      | false =>
        refine iteF ?_
        walk_at "go"
        refine x_neSc (lsc_scal hsz (n := n.toNat) (by omega)) ?_
        exact hR _ _ ⟨rfl, rfl⟩
    intro σ' H' ⟨hσ, hH⟩
    subst hσ hH
    walk_at "go"
    rename_i H2 hO2 hI2 H3 hO3 hI3
    have f1 : H3 r = some (.ins T.C_Chip F.dx (chipF F (c.tick n.toNat (c.well n.toNat worn)))) := by walk_at "hp"
    have f2 : H3 F.la = some (.lst c.lasts) := by walk_at "hp"
    have f3 : H3 F.st = some (.lst c.stuff) := by walk_at "hp"
    have f4 : H3 F.cl = some (.lst (c.clr.map V.int)) := by walk_at "hp"
    have f5 : H3 F.lg = some (.lst lvs) := by walk_at "hp"
    have f6 : H3 F.tr = some (.lst ((c.tried.set n.toNat (c.tried.getD n.toNat 0 + 1)).map V.int)) := by
      rw [List.map_set]
      walk_at "hp"
    have f7 : H3 F.br = some (.lst ((c.broken.set n.toNat (!c.well n.toNat worn)).map V.bl)) := by
      rw [List.map_set]
      exact hI3
    have hoff : Off (F.all r) H H3 := by unfold CF.all; walk_at "off"
    exact q H3 hoff ⟨f1, f2, f3, f6, f4, f7, ⟨lvs, f5, hlog.mono (hC.tups hoff)⟩, hC.nd, hsz.tick _ _⟩
theorem x_mGoes {T : Txt K mg} {H : Hp} {Q : VK} {E : XK} {σ : L2.St} {r : Addr} {F : CF} {c : Cs} {t : TA} (hC : ChipAt T.C_Chip H r F c) (h : t σ H fun vs H2 => spGoes T (.ref r :: vs) H2 Q E) : mtK P w K mg base (L2.CX P w) 1 "goes_well" E σ t Q (.ref r) H :=
  x_mtK hC.obj ⟨⟨_, _, _, T.cl_Chip, T.m_Chip_goes_well, ok_Chip_goes_well T, T.bd_Chip_goes_well⟩⟩ rfl h
/-- how an asking ends, in a heap -/
def Fin (T : Txt K mg) (res : Res) (Qn : Hp → Prop) (E : XK) (H' : Hp) : Prop := match res with
  | .ok => Qn H'
  | .place => E (.ref T.C_NoPlace) none H'
  | .dark => E (.ref T.C_PowerGone) none H'
  | .failed b => ∀ d, H' d = some (.xd [("block", .int b)]) → E (.ref T.C_BlockFailed) (some d) H'
  | .clear n => ∀ d, H' d = some (.xd [("page", .int n)]) → E (.ref T.C_NotClear) (some d) H'
  | .value => False
theorem x_finOk {T : Txt K mg} {Qn : Hp → Prop} {E : XK} {H' : Hp} (h : Qn H') : Fin T .ok Qn E H' := h
theorem x_finDark {T : Txt K mg} {Qn : Hp → Prop} {E : XK} {H' : Hp} (h : E (.ref T.C_PowerGone) none H') : Fin T .dark Qn E H' := h
/-! ### put -/
def Cs.said (c : Cs) (k : Nat) (w : Bool) (e : Str × Int) : Cs := { c.tick k w with log := c.log ++ [(e.1, e.2, w)] }
def Cs.putR (c : Cs) (o : Option Int) (v : V) : Res × Cs :=
  if inB o 0 (c.b * c.p - 1) = false then (.place, c) else if c.dark = true then (.dark, c)
  else if c.broken.getD (o.getD 0 / c.p).toNat false = true then (.failed (o.getD 0 / c.p), c)
  else if c.stuff.getD (o.getD 0).toNat .non ≠ .non then (.clear (o.getD 0), c)
  else if c.well (o.getD 0 / c.p).toNat false = true then (.ok, { c.said (o.getD 0 / c.p).toNat true ("put", o.getD 0) with stuff := c.stuff.set (o.getD 0).toNat v })
  else (.failed (o.getD 0 / c.p), c.said (o.getD 0 / c.p).toNat false ("put", o.getD 0))
theorem Sizes.said {c : Cs} (h : Sizes c) (n : Nat) (w : Bool) (e : Str × Int) : Sizes (c.said n w e) := ⟨(h.tick n w).b, h.p, h.m, h.lasts, h.stuff, (h.tick n w).tried, h.clr, (h.tick n w).broken, h.lsc⟩
theorem LogAll.snoc {H : Hp} {vs : List V} {es : List (Str × Int × Bool)} {v : V} {e : Str × Int × Bool} (h : LogAll H vs es) (hv : LogAt H v e) : LogAll H (vs ++ [v]) (es ++ [e]) := by
  refine ⟨by simp [h.1], fun i x y h1 h2 => ?_⟩
  by_cases hi : i < vs.length
  · rw [List.getElem?_append_left hi] at h1
    rw [List.getElem?_append_left (h.1 ▸ hi)] at h2
    exact h.2 i x y h1 h2
  · have e : i = vs.length := by
      have := (List.getElem?_eq_some_iff.mp h1).1
      simp at this
      omega
    subst e
    rw [List.getElem?_append_right (Nat.le_refl _)] at h1
    rw [h.1, List.getElem?_append_right (Nat.le_refl _)] at h2
    simp at h1 h2
    subst h1 h2
    exact hv
local macro_rules | `(tactic| walk_at "u") => `(tactic| ((with_reducible refine' x_appO ?ho ?_ ?hl); (case ho => walk_at "hp"); (try (case hl => walk_at "side")); intro H1 hO hI; (try dsimp only)))
def spPut (T : Txt K mg) : Sp := fun vs H Q E => ∃ (r : Addr) (F : CF) (c : Cs) (vp v : V) (o : Option Int), vs = [.ref r, vp, v] ∧ ChipAt T.C_Chip H r F c ∧ Num vp o ∧ c.log.length < 900000 ∧
  ∀ H', Off (F.all r) H H' → ChipAt T.C_Chip H' r F (c.putR o v).2 → Fin T (c.putR o v).1 (Q .non) E H'
theorem ok_Chip_put (T : Txt K mg) : FO P w K mg base 4 T.a_Chip_put T.fd_Chip_put ["self", "page", "stuff"] (spPut T) := by
  have sc := sc_Chip_put
  refine T.F_Chip_put.okX sc (fun vs H Q E h => ?_) (fun cdv A outer s H vs Q E hr h => ?_)
  · obtain ⟨_, _, _, _, _, _, rfl, _⟩ := h
    rfl
  · obtain ⟨r, F, c, vp, v, o, rfl, hC, hn, hll, q⟩ := h
    refine ⟨_, (pss_cons (ps_expr (pe_methD (k := 3) (pv 0) (hr.mono (by decide)) (passAt (takes_of rfl rfl rfl rfl)) (pa_cons (pv 1) pa_nil)))
      (pss_cons (ps_expr (pe_methD0 (k := 2) (pv 0) (hr.mono (by decide)) (passAt (takes_of rfl rfl rfl rfl))))
      (pss_cons (ps_set (i := 3) sc.nd rfl (by first | exact Or.inl rfl | exact Or.inr rfl) (pe_op op_fdivW (pv 1) (pe_fld (pv 0) rfl)))
      (pss_cons (ps_expr (pe_methD (k := 3) (pv 0) (hr.mono (by decide)) (passAt (takes_of rfl rfl rfl rfl)) (pa_cons (pv 3) pa_nil)))
      (pss_cons (ps_if (pt_cmpR op_uIsNot (pe_ix ix_seq (pe_fld (pv 0) rfl) (pv 1) (fun _ _ => rfl)) pe_non (nomark _)) (pss_one (ps_raiseK rfl (takes_of rfl rfl rfl rfl) (pmk_oex T.xi_NotClear.o T.xi_NotClear.i T.xi_NotClear.t (ok_NotClear_init T) (hr.mono (by decide)) T.bd_NotClear_init .nil passE0 rfl T.g_NotClear (pa_cons (pv 1) pa_nil)))) pss_nil)
      (pss_cons (ps_set (i := 4) sc.nd rfl (by first | exact Or.inl rfl | exact Or.inr rfl) (pe_methD (k := 1) (pv 0) (hr.mono (by decide)) (passAt (takes_of rfl rfl rfl rfl)) (pa_cons (pv 3) (pa_cons pe_bl pa_nil))))
      (pss_cons (ps_expr (pe_bm PySem.F.plainAttrs_list PySem.F.slot_list_append PySem.F.type_list_append mt_append (pe_fld (pv 0) rfl) (pa_cons (pe_tup (pa_cons pe_str (pa_cons (pv 1) (pa_cons (pv 4) pa_nil)))) pa_nil)))
      (pss_cons (ps_if (pt_not (pt_truth (pv 4) (by intro _; rfl))) (pss_one (ps_raiseK rfl (takes_of rfl rfl rfl rfl) (pmk_oex T.xi_BlockFailed.o T.xi_BlockFailed.i T.xi_BlockFailed.t (ok_BlockFailed_init T) (hr.mono (by decide)) T.bd_BlockFailed_init .nil passE0 rfl T.g_BlockFailed (pa_cons (pv 3) pa_nil)))) pss_nil)
      (pss_one (ps_asg (pv 2) (pg_sub (pe_fld (pv 0) rfl) (pv 1) set_list))))))))))), ?_⟩
    unfold Cs.putR at q
    have hsz := hC.sz
    obtain ⟨hb1, hb2⟩ := hsz.b
    obtain ⟨hp1, hp2⟩ := hsz.p
    walk_at "begin"
    walk_at "go"
    refine x_mPage hC ?_
    walk_at "go"
    refine x_page hC hn (fun hin => ?_) (fun hin => ?_)
    rotate_left
    · rw [if_pos hin] at q
      exact q H Off.refl hC
    rw [if_neg (by rw [hin]; decide)] at q
    obtain ⟨n, rfl, rfl, h0, h1⟩ := hn.of_inB hin
    dsimp only [Option.getD] at q
    have hk0 : 0 ≤ n / c.p := Int.ediv_nonneg h0 (by omega)
    have hk1 : n / c.p < c.b := Int.ediv_lt_of_lt_mul (by omega) (by omega)
    walk_at "go"
    refine x_mPower hC (fun hd => ?_) (fun hd => ?_)
    rotate_left
    · rw [if_pos hd] at q
      exact q H Off.refl hC
    rw [if_neg (by rw [hd]; decide)] at q
    have ho := hC.obj
    unfold chipF at ho
    have hst := hC.st
    have z4 := hsz.stuff
    walk_at "go"
    refine x_mGoodB hC ?_
    walk_at "go"
    refine ⟨r, F, c, _, rfl, hC, hk0, hk1, fun hg => ?_, fun hg d H1 hs hd1 hx => ?_⟩
    rotate_left
    · rw [if_pos hg] at q
      exact q H1 (Off.of hs) (hC.mono hs) d hx
    rw [if_neg (by rw [hg]; decide)] at q
    walk_at "go"
    walk_at "if"
    have hbp : c.b * c.p ≤ 16 * 16 := Int.mul_le_mul hb2 hp2 (by omega) (by decide)
    refine x_iteD (fun hcl => ?_) (fun hcl => ?_)
    rotate_left
    · walk_at "go"
      refine x_moK ⟨n, rfl, h0, by omega⟩ (fun d H1 hd hs hx => ?_) T.xi_NotClear.o T.nx_NotClear_page
      rw [if_pos hcl] at q
      exact q H1 (Off.of hs) (hC.mono hs) d hx
    rw [if_neg (fun z => z hcl)] at q
    walk_at "go"
    refine x_mGoes hC ?_
    walk_at "go"
    refine ⟨r, F, c, n / c.p, false, rfl, hC, hk0, hk1, fun H1 hO1 hC1 => ?_⟩
    obtain ⟨⟨n1, n2, n3, n4, n5, n6⟩, ⟨n7, n8, n9, n10, n11⟩, ⟨n12, n13, n14, n15⟩, ⟨n16, n17, n18⟩, ⟨n19, n20⟩, n21⟩ := hC.ne
    have hsz1 := hsz.said (n / c.p).toNat (c.well (n / c.p).toNat false) ("put", n)
    have hlog := hC1.lg
    have o1' := hC1.obj
    have a1 := hC1.la
    have a2 := hC1.st
    have a3 := hC1.tr
    have a4 := hC1.cl
    have a5 := hC1.br
    obtain ⟨lvs, hlg, hla⟩ := hlog
    have hlv : lvs.length < sizeLine := Nat.lt_of_lt_of_le (m := 900000) (by rw [hla.1]; exact hll) (by decide)
    have hla1 : LogAll H1 lvs c.log := hla
    obtain ⟨w, hw⟩ : ∃ w, c.well (n / c.p).toNat false = w := ⟨_, rfl⟩
    have qT : w = true → ∀ H', Off (F.all r) H H' → ChipAt T.C_Chip H' r F { c.said (n / c.p).toNat true ("put", n) with stuff := c.stuff.set n.toNat v } → Q .non H' := fun h => by
      rw [if_pos (hw.trans h)] at q
      exact q
    have qF : w = false → ∀ H', Off (F.all r) H H' → ChipAt T.C_Chip H' r F (c.said (n / c.p).toNat false ("put", n)) → ∀ d, H' d = some (.xd [("block", .int (n / c.p))]) → E (.ref T.C_BlockFailed) (some d) H' := fun h => by
      rw [if_neg (by rw [hw, h]; decide)] at q
      exact q
    clear q
    rw [hw] at o1' a1 a2 a3 a4 a5 hsz1 hC1 ⊢
    have o1 := o1'
    unfold chipF at o1
    have hoff1 := hO1
    have hO1 := hoff1
    clear hO1
    walk_at "go"
    rename_i qt H2 hqt hs2 hn2 H3 hO3 hI3
    have f1 : H3 r = some (.ins T.C_Chip F.dx (chipF F (c.tick (n / c.p).toNat w))) := by walk_at "hp"
    have f2 : H3 F.la = some (.lst c.lasts) := by walk_at "hp"
    have f3 : H3 F.st = some (.lst c.stuff) := by walk_at "hp"
    have f4 : H3 F.cl = some (.lst (c.clr.map V.int)) := by walk_at "hp"
    have f6 : H3 F.tr = some (.lst ((c.tick (n / c.p).toNat w).tried.map V.int)) := by walk_at "hp"
    have f7 : H3 F.br = some (.lst ((c.tick (n / c.p).toNat w).broken.map V.bl)) := by walk_at "hp"
    have hoff13 : Off (F.all r) H1 H3 := by unfold CF.all; walk_at "off"
    have hoff3 := hoff1.trans hoff13
    have hq3 : H3 qt = some (.tup [.str "put", .int n, .bl w]) := hO3.at hn2 (nin_of (ne_of_none hlg hqt).symm)
    have hla3 : LogAll H3 (lvs ++ [.ref qt]) (c.log ++ [(("put" : Str), n, w)]) := ((hla1.mono (hC1.tups hoff13))).snoc ⟨qt, rfl, hq3⟩
    have hC3 : ChipAt T.C_Chip H3 r F (c.said (n / c.p).toNat w ("put", n)) := ⟨f1, f2, f3, f6, f4, f7, ⟨_, hI3, hla3⟩, hC.nd, hsz1⟩
    refine x_join (fun σ' H' => σ' = [some (.ref r), some (.int n), some v, some (.int (n / c.p)), some (.bl w)] ∧ H' = H3 ∧ w = true) (fun R hR => ?_) ?_
    · walk_at "go"
      refine x_iteB (fun h => ?_) (fun h => ?_)
      · walk_at "go"
        exact hR _ _ ⟨rfl, rfl, h⟩
      · subst h
        walk_at "go"
        refine x_moK ⟨n / c.p, rfl, hk0, by omega⟩ (fun d H4 hd hs hx => ?_) T.xi_BlockFailed.o T.nx_BlockFailed_block
        exact qF rfl H4 (hoff3.trans (Off.of hs)) (hC3.mono hs) d hx
    intro σ' H' ⟨hσ, hH, hwt⟩
    subst hσ hH hwt
    unfold chipF at f1
    have hC3' := hC3
    clear hoff13
    have hst3 : (n : Int) < c.stuff.length := by omega
    walk_at "go"
    rename_i H4 hO4 hI4
    have g1 : H4 r = some (.ins T.C_Chip F.dx (chipF F (c.tick (n / c.p).toNat true))) := by unfold chipF; walk_at "hp"
    have g2 : H4 F.la = some (.lst c.lasts) := by walk_at "hp"
    have g4 : H4 F.cl = some (.lst (c.clr.map V.int)) := by walk_at "hp"
    have g6 : H4 F.tr = some (.lst ((c.tick (n / c.p).toNat true).tried.map V.int)) := by walk_at "hp"
    have g7 : H4 F.br = some (.lst ((c.tick (n / c.p).toNat true).broken.map V.bl)) := by walk_at "hp"
    have g8 : H4 F.lg = some (.lst (lvs ++ [.ref qt])) := by walk_at "hp"
    have hoff34 : Off (F.all r) H' H4 := by unfold CF.all; walk_at "off"
    exact qT rfl H4 (hoff3.trans hoff34) ⟨g1, g2, hI4, g6, g4, g7, ⟨_, g8, hla3.mono (hC3'.tups hoff34)⟩, hC.nd, ⟨hsz1.b, hsz1.p, hsz1.m, hsz1.lasts, by show ((c.stuff.set _ _).length : Int) = _; rw [List.length_set]; exact hsz.stuff, hsz1.tried, hsz1.clr, hsz1.broken, hsz1.lsc⟩⟩
theorem x_mPut {T : Txt K mg} {H : Hp} {Q : VK} {E : XK} {σ : L2.St} {r : Addr} {F : CF} {c : Cs} {t : TA} (hC : ChipAt T.C_Chip H r F c) (h : t σ H fun vs H2 => spPut T (.ref r :: vs) H2 Q E) : mtK P w K mg base (L2.CX P w) 4 "put" E σ t Q (.ref r) H :=
  x_mtK hC.obj ⟨⟨_, _, _, T.cl_Chip, T.m_Chip_put, ok_Chip_put T, T.bd_Chip_put⟩⟩ rfl h
/-! ### a new chip -/
def endF (n : Int) : List (Option Int × Option Int) → List V → Option (List V)
  | [], l => some l
  | (b, g) :: r, l => if inB b 0 (n - 1) = true then if inB g 0 1000000 = true then if l.getD (b.getD 0).toNat .non = .non then endF n r (l.set (b.getD 0).toNat (.int (g.getD 0))) else none else none else none
theorem endF_cons {n : Int} {b g : Option Int} {r : List (Option Int × Option Int)} {l : List V} : endF n ((b, g) :: r) l = if inB b 0 (n - 1) = true then if inB g 0 1000000 = true then if l.getD (b.getD 0).toNat .non = .non then endF n r (l.set (b.getD 0).toNat (.int (g.getD 0))) else none else none else none := rfl
def IllsAt (H : Hp) (v : V) (is : List (Option Int × Option Int)) : Prop := (v = .non ∧ is = []) ∨ ∃ q vs, v = .ref q ∧ (H q = some (.lst vs) ∨ H q = some (.tup vs)) ∧ vs.length = is.length ∧ ∀ (i : Nat) x e, vs[i]? = some x → is[i]? = some e → ∃ t vb vg, x = .ref t ∧ H t = some (.tup [vb, vg]) ∧ Num vb e.1 ∧ Num vg e.2
def spEndu (T : Txt K mg) : Sp := fun vs H Q E => ∃ (n : Int) (vi : V) (is : List (Option Int × Option Int)), vs = [.int n, vi] ∧ 2 ≤ n ∧ n ≤ 16 ∧ IllsAt H vi is ∧
  (∀ l, endF n is (List.replicate n.toNat .non) = some l → ∀ p H', Same H H' → H p = none → H' p = some (.lst l) → Q (.ref p) H') ∧
  (endF n is (List.replicate n.toNat .non) = none → ∀ H', Same H H' → E (.ref T.C_NoChip) none H')
theorem ok_endurance (T : Txt K mg) : FO P w K mg base 3 T.a_endurance T.fd_endurance ["blocks", "ills"] (spEndu T) := by
  have sc := sc_endurance
  refine T.F_endurance.okX sc (fun vs H Q E h => ?_) (fun cdv A outer s H vs Q E hr h => ?_)
  · obtain ⟨_, _, _, rfl, _⟩ := h
    rfl
  · obtain ⟨n, vi, is, rfl, h2, h16, hi, q1, q2⟩ := h
    refine ⟨_, (pss_cons (ps_set (i := 2) sc.nd rfl (by first | exact Or.inl rfl | exact Or.inr rfl) (pe_op op_uMul (pe_lst (pa_cons pe_non pa_nil)) (pv 0)))
      (pss_cons (ps_if (pt_cmpR op_uIs (pv 1) pe_non (nomark _)) (pss_one (ps_ret (pv 2))) pss_nil)
      (pss_cons (ps_for (passes_of rfl) rfl (pi_seq (pv 1)) (pg_tup (by rfl) (pgs_cons (pg_name (i := 3) sc.nd rfl (by first | exact Or.inl rfl | exact Or.inr rfl)) (pgs_cons (pg_name (i := 4) sc.nd rfl (by first | exact Or.inl rfl | exact Or.inr rfl)) pgs_nil))) (pss_cons (ps_if (PW.pt (pw_or (pt_not (pt_truth (pe_callS (ok_is_within T) (hr.mono (by decide)) (by rfl) T.g_is_within T.k_is_within T.bd_is_within (passAt (takes_of rfl rfl rfl rfl)) (pa_cons (pv 3) (pa_cons pe_int (pa_cons (pe_op op_sub (pv 0) pe_int) pa_nil)))) (by intro _; rfl))) (pw_or1 (pt_not (pt_truth (pe_callS (ok_is_within T) (hr.mono (by decide)) (by rfl) T.g_is_within T.k_is_within T.bd_is_within (passAt (takes_of rfl rfl rfl rfl)) (pa_cons (pv 4) (pa_cons pe_int (pa_cons (pe_glob rfl T.g_MOST T.r_MOST) pa_nil)))) (by intro _; rfl)))))) (pss_one (ps_raiseK rfl (takes_of rfl rfl rfl rfl) (pmk_ownK T.xc_NoChip T.g_NoChip rfl))) pss_nil)
      (pss_cons (ps_if (pt_cmpR op_uIsNot (pe_ix ix_seq (pv 2) (pv 3) (fun _ _ => rfl)) pe_non (nomark _)) (pss_one (ps_raiseK rfl (takes_of rfl rfl rfl rfl) (pmk_ownK T.xc_NoChip T.g_NoChip rfl))) pss_nil)
      (pss_one (ps_asg (pv 4) (pg_sub (pv 2) (pv 3) set_list))))))
      (pss_one (ps_ret (pv 2)))))), ?_⟩
    walk_at "begin"
    walk_at "go"
    rename_i p0 H0 hp0 hs0 hn0 p H1 hp hs1 hn1
    have hpH : H p = none := same_none hs0 hp
    have s01 : Same H H1 := hs0.trans hs1
    rcases hi with ⟨rfl, rfl⟩ | ⟨qi, vs, rfl, hq, hlen, hall⟩
    · walk_at "if"
      refine iteT ?_
      walk_at "go"
      exact q1 _ rfl p H1 s01 hpH hn1
    · walk_at "if"
      refine iteF ?_
      walk_at "go"
      refine x_seq ?_
      walk_at "go"
      obtain ⟨kq, hkq⟩ := sqB_of (K := K) hq
      refine x_frS (hkq _ s01) (fun i σ H2 => ∃ (v3 v4 : Option V) (l : List V), σ = [some (.int n), some (.ref qi), some (.ref p), v3, v4] ∧ Same H H2 ∧ H2 p = some (.lst l) ∧ (l.length : Int) = n ∧ (∀ x ∈ l, x = .non ∨ ∃ k : Int, x = .int k) ∧ endF n is (List.replicate n.toNat .non) = endF n (is.drop i) l)
        ⟨_, _, _, rfl, s01, hn1, by rw [List.length_replicate]; omega, fun x hx => .inl (List.eq_of_mem_replicate hx), rfl⟩ (fun i σ H2 _ ⟨_, _, _, _, hs2, _⟩ => hkq _ hs2) ?_ ?_
      · intro i x σ H2 hx ⟨v3, v4, l, hσ, hs2, hp2, hll, hlx, he⟩
        subst hσ
        have hil := (List.getElem?_eq_some_iff.mp hx).1
        obtain ⟨t, vb, vg, rfl, ht, hnb, hng⟩ := hall i x _ hx (List.getElem?_eq_getElem (hlen ▸ hil))
        have hil2 : i < is.length := hlen ▸ hil
        rw [List.drop_eq_getElem_cons hil2] at he
        generalize is[i] = e at hnb hng he
        obtain ⟨eb, eg⟩ := e
        dsimp only at hnb hng
        rw [endF_cons] at he
        have ht2 := hs2 _ _ ht
        refine x_gtup2 (SqT.of ht2) ?_
        dsimp only [List.set]
        walk_at "if"
        refine x_wNum hnb ?_
        walk_at "go"
        refine x_iteB (fun hb => ?_) (fun hb => ?_)
        rotate_left
        · rw [if_neg (by rw [hb]; decide)] at he
          walk_at "go"
          exact q2 he H2 hs2
        rw [if_pos hb] at he
        obtain ⟨b, rfl, rfl, hb1, hb2⟩ := hnb.of_inB hb
        walk_at "go"
        refine x_wNum hng ?_
        walk_at "go"
        refine x_iteB (fun hg => ?_) (fun hg => ?_)
        rotate_left
        · rw [if_neg (by rw [hg]; decide)] at he
          walk_at "go"
          exact q2 he H2 hs2
        rw [if_pos hg] at he
        obtain ⟨g, rfl, rfl, hg1, hg2⟩ := hng.of_inB hg
        dsimp only [Option.getD_some] at he
        walk_at "go"
        walk_at "if"
        refine x_iteD (fun hl => ?_) (fun hl => ?_)
        rotate_left
        · rw [if_neg hl] at he
          walk_at "go"
          exact q2 he H2 hs2
        rw [if_pos hl] at he
        walk_at "go"
        rename_i H3 hO3 hI3
        refine ⟨_, _, l.set b.toNat (.int g), rfl, Off.same1 hs2 hO3 hpH, hI3, by rw [List.length_set]; exact hll, fun x hx => ?_, he⟩
        rcases List.mem_or_eq_of_mem_set hx with hx | hx
        · exact hlx x hx
        · exact .inr ⟨g, hx⟩
      · intro σ H2 ⟨v3, v4, l, hσ, hs2, hp2, hll, hlx, he⟩
        subst hσ
        rw [hlen, List.drop_length] at he
        walk_at "go"
        exact q1 l he p H2 hs2 hpH hp2
theorem x_endu {T : Txt K mg} {H : Hp} {Q : VK} {E : XK} {n : Int} {vi : V} {is : List (Option Int × Option Int)} (hi : IllsAt H vi is)
  (q1 : ∀ l, endF n is (List.replicate n.toNat .non) = some l → ∀ p H', Same H H' → H p = none → H' p = some (.lst l) → Q (.ref p) H')
  (q2 : endF n is (List.replicate n.toNat .non) = none → ∀ H', Same H H' → E (.ref T.C_NoChip) none H') (h2 : 2 ≤ n ∧ n ≤ 16) : spEndu T [.int n, vi] H Q E := ⟨n, vi, is, rfl, h2.1, h2.2, hi, q1, q2⟩
theorem endF_len {n : Int} : ∀ {is : List (Option Int × Option Int)} {l l' : List V}, endF n is l = some l' → (∀ x ∈ l, x = .non ∨ ∃ k : Int, x = .int k) → l'.length = l.length ∧ ∀ x ∈ l', x = .non ∨ ∃ k : Int, x = .int k
  | [], l, l', h, hx => by cases h; exact ⟨rfl, hx⟩
  | (b, g) :: r, l, l', h, hx => by
    unfold endF at h
    split at h
    · split at h
      · split at h
        · obtain ⟨h1, h2⟩ := endF_len h (fun x m => by
            rcases List.mem_or_eq_of_mem_set m with m | m
            · exact hx x m
            · exact .inr ⟨_, m⟩)
          rw [List.length_set] at h1
          exact ⟨h1, h2⟩
        · cases h
      · cases h
    · cases h
def Cs.new (b p m : Int) (l : List V) : Cs := { b, p, m, lasts := l, stuff := List.replicate (b * p).toNat .non, tried := List.replicate b.toNat 0, clr := List.replicate b.toNat 0, broken := List.replicate b.toNat false, left := none, log := [] }
def chipGood (b p m : Option Int) : Bool := inB b 2 16 && inB p 1 16 && inB m 0 1000000
def spCInit (T : Txt K mg) : Sp := fun vs H Q E => ∃ (r dx : Addr) (vb vp vm vi : V) (b p m : Option Int) (is : List (Option Int × Option Int)), vs = [.ref r, vb, vp, vm, vi] ∧ H r = some (.ins T.C_Chip dx []) ∧ Num vb b ∧ Num vp p ∧ Num vm m ∧ IllsAt H vi is ∧
  (chipGood b p m = true → ∀ l, endF (b.getD 0) is (List.replicate (b.getD 0).toNat .non) = some l → ∀ F H', Off [r] H H' → (∀ a ∈ F.all r, a ≠ r → H a = none) → ChipAt T.C_Chip H' r F (Cs.new (b.getD 0) (p.getD 0) (m.getD 0) l) → Q .non H') ∧
  ((chipGood b p m = false ∨ endF (b.getD 0) is (List.replicate (b.getD 0).toNat .non) = none) → ∀ H', Off [r] H H' → E (.ref T.C_NoChip) none H')
theorem ok_Chip_init (T : Txt K mg) : FO P w K mg base 4 T.a_Chip_init T.fd_Chip_init ["self", "blocks", "pages", "most", "ills"] (spCInit T) := by
  have sc := sc_Chip_init
  refine T.F_Chip_init.okX sc (fun vs H Q E h => ?_) (fun cdv A outer s H vs Q E hr h => ?_)
  · obtain ⟨_, _, _, _, _, _, _, _, _, _, rfl, _⟩ := h
    rfl
  · obtain ⟨r, dx, vb, vp, vm, vi, b, p, m, is, rfl, hR, nb, np, nm, hi, q1, q2⟩ := h
    refine ⟨_, (pss_cons (ps_if (PW.pt (pw_or (pt_not (pt_truth (pe_callS (ok_is_within T) (hr.mono (by decide)) (by rfl) T.g_is_within T.k_is_within T.bd_is_within (passAt (takes_of rfl rfl rfl rfl)) (pa_cons (pv 1) (pa_cons pe_int (pa_cons (pe_glob rfl T.g_MANY T.r_MANY) pa_nil)))) (by intro _; rfl))) (pw_or (pt_not (pt_truth (pe_callS (ok_is_within T) (hr.mono (by decide)) (by rfl) T.g_is_within T.k_is_within T.bd_is_within (passAt (takes_of rfl rfl rfl rfl)) (pa_cons (pv 2) (pa_cons pe_int (pa_cons (pe_glob rfl T.g_MANY T.r_MANY) pa_nil)))) (by intro _; rfl))) (pw_or1 (pt_not (pt_truth (pe_callS (ok_is_within T) (hr.mono (by decide)) (by rfl) T.g_is_within T.k_is_within T.bd_is_within (passAt (takes_of rfl rfl rfl rfl)) (pa_cons (pv 3) (pa_cons pe_int (pa_cons (pe_glob rfl T.g_MOST T.r_MOST) pa_nil)))) (by intro _; rfl))))))) (pss_one (ps_raiseK rfl (takes_of rfl rfl rfl rfl) (pmk_ownK T.xc_NoChip T.g_NoChip rfl))) pss_nil)
      (pss_cons (ps_fld (pv 0) (pv 1) rfl)
      (pss_cons (ps_fld (pv 0) (pv 2) rfl)
      (pss_cons (ps_fld (pv 0) (pv 3) rfl)
      (pss_cons (ps_fld (pv 0) (pe_callS (ok_endurance T) (hr.mono (by decide)) (by rfl) T.g_endurance T.k_endurance T.bd_endurance (passAt (takes_of rfl rfl rfl rfl)) (pa_cons (pv 1) (pa_cons (pv 4) pa_nil))) rfl)
      (pss_cons (ps_fld (pv 0) (pe_op op_uMul (pe_lst (pa_cons pe_non pa_nil)) (pe_op op_uMul (pv 1) (pv 2))) rfl)
      (pss_cons (ps_fld (pv 0) (pe_op op_uMul (pe_lst (pa_cons pe_int pa_nil)) (pv 1)) rfl)
      (pss_cons (ps_fld (pv 0) (pe_op op_uMul (pe_lst (pa_cons pe_int pa_nil)) (pv 1)) rfl)
      (pss_cons (ps_fld (pv 0) (pe_op op_uMul (pe_lst (pa_cons pe_bl pa_nil)) (pv 1)) rfl)
      (pss_cons (ps_fld (pv 0) pe_non rfl)
      (pss_one (ps_fld (pv 0) (pe_lst pa_nil) rfl)))))))))))), ?_⟩
    walk_at "begin"
    walk_at "if"
    refine x_wNum nb ?_
    walk_at "go"
    refine x_iteB (fun hb => ?_) (fun hb => ?_)
    rotate_left
    · walk_at "go"
      exact q2 (.inl (by unfold chipGood; rw [hb]; rfl)) H Off.refl
    obtain ⟨b, rfl, rfl, hb1, hb2⟩ := nb.of_inB hb
    walk_at "go"
    refine x_wNum np ?_
    walk_at "go"
    refine x_iteB (fun hp => ?_) (fun hp => ?_)
    rotate_left
    · walk_at "go"
      exact q2 (.inl (by unfold chipGood; rw [hb, hp]; rfl)) H Off.refl
    obtain ⟨p, rfl, rfl, hp1, hp2⟩ := np.of_inB hp
    walk_at "go"
    refine x_wNum nm ?_
    walk_at "go"
    refine x_iteB (fun hm => ?_) (fun hm => ?_)
    rotate_left
    · walk_at "go"
      exact q2 (.inl (by unfold chipGood; rw [hb, hp, hm]; rfl)) H Off.refl
    obtain ⟨m, rfl, rfl, hm1, hm2⟩ := nm.of_inB hm
    have hgood : chipGood (some b) (some p) (some m) = true := by unfold chipGood; rw [hb, hp, hm]; rfl
    dsimp only [Option.getD_some] at q1 q2
    walk_at "go"
    rename_i H1 hO1 hI1 H2 hO2 hI2 H3 hO3 hI3
    have hO : Off [r] H H3 := (hO1.trans hO2).trans hO3
    have hi3 : IllsAt H3 vi is := by
      rcases hi with h | ⟨q, vs, e, hq, hl, hall⟩
      · exact .inl h
      · refine .inr ⟨q, vs, e, hq.imp (fun z => hO.lst hR z) (fun z => hO.tup hR z), hl, fun i x y h1 h2 => ?_⟩
        obtain ⟨t, vb, vg, e, ht, r⟩ := hall i x y h1 h2
        exact ⟨t, vb, vg, e, hO.tup hR ht, r⟩
    refine x_endu hi3 (fun l hl la H4 hs4 hla hlal => ?_) (fun hl H4 hs4 => q2 (.inr hl) H4 (hO.trans (Off.of hs4))) ⟨hb1, hb2⟩
    have hbp0 : 0 ≤ b * p := Int.mul_nonneg (by omega) (by omega)
    have hbp : b * p ≤ 16 * 16 := Int.mul_le_mul hb2 hp2 (by omega) (by decide)
    clear hO
    walk_at "go"
    rename_i H5 hO5 hI5 x1 G1 hx1 sx1 nx1 x2 G2 hx2 sx2 nx2 H6 hO6 hI6 y1 G3 hy1 sy1 ny1 y2 G4 hy2 sy2 ny2 H7 hO7 hI7 z1 G5 hz1 sz1 nz1 z2 G6 hz2 sz2 nz2 H8 hO8 hI8 w1 G7 hw1 sw1 nw1 w2 G8 hw2 sw2 nw2 H9 hO9 hI9 H10 hO10 hI10 u1 G9 hu1 su1 nu1 H11 hO11 hI11
    have d1 : r ≠ la := by walk_at "nn"
    have d2 : r ≠ x2 := by walk_at "nn"
    have d3 : la ≠ x2 := by walk_at "nn"
    have d4 : r ≠ y2 := by walk_at "nn"
    have d5 : la ≠ y2 := by walk_at "nn"
    have d6 : x2 ≠ y2 := by walk_at "nn"
    have d7 : r ≠ z2 := by walk_at "nn"
    have d8 : la ≠ z2 := by walk_at "nn"
    have d9 : x2 ≠ z2 := by walk_at "nn"
    have d10 : y2 ≠ z2 := by walk_at "nn"
    have d11 : r ≠ w2 := by walk_at "nn"
    have d12 : la ≠ w2 := by walk_at "nn"
    have d13 : x2 ≠ w2 := by walk_at "nn"
    have d14 : y2 ≠ w2 := by walk_at "nn"
    have d15 : z2 ≠ w2 := by walk_at "nn"
    have d16 : r ≠ u1 := by walk_at "nn"
    have d17 : la ≠ u1 := by walk_at "nn"
    have d18 : x2 ≠ u1 := by walk_at "nn"
    have d19 : y2 ≠ u1 := by walk_at "nn"
    have d20 : z2 ≠ u1 := by walk_at "nn"
    have d21 : w2 ≠ u1 := by walk_at "nn"
    have f1 : H11 la = some (.lst l) := by walk_at "hp"
    have f2 : H11 x2 = some (.lst (List.replicate (b * p).toNat .non)) := by walk_at "hp"
    have f3 : H11 y2 = some (.lst (List.replicate b.toNat (.int 0))) := by walk_at "hp"
    have f4 : H11 z2 = some (.lst (List.replicate b.toNat (.int 0))) := by walk_at "hp"
    have f5 : H11 w2 = some (.lst (List.replicate b.toNat (.bl false))) := by walk_at "hp"
    have f6 : H11 u1 = some (.lst []) := by walk_at "hp"
    have k1 : H la = none := by
      refine off_none (H1 := H3) ?_ hla d1.symm
      walk_at "off"
    have k2 : H x2 = none := by
      refine off_none (H1 := G1) ?_ hx2 d2.symm
      walk_at "off"
    have k3 : H y2 = none := by
      refine off_none (H1 := G3) ?_ hy2 d4.symm
      walk_at "off"
    have k4 : H z2 = none := by
      refine off_none (H1 := G5) ?_ hz2 d7.symm
      walk_at "off"
    have k5 : H w2 = none := by
      refine off_none (H1 := G7) ?_ hw2 d11.symm
      walk_at "off"
    have k6 : H u1 = none := by
      refine off_none (H1 := H10) ?_ hu1 d16.symm
      walk_at "off"
    have hoff : Off [r] H H11 := by walk_at "off"
    obtain ⟨e1, e2⟩ := endF_len hl (fun x hx => .inl (List.eq_of_mem_replicate hx))
    rw [List.length_replicate] at e1
    refine q1 hgood l hl ⟨dx, la, x2, y2, z2, w2, u1⟩ H11 hoff (fun a ha hne => ?_) ⟨hI11, f1, f2, ?_, ?_, ?_, ⟨[], f6, rfl, fun i v e h => by simp at h⟩, ?_, ⟨⟨hb1, hb2⟩, ⟨hp1, hp2⟩, ⟨hm1, hm2⟩, ?_, ?_, ?_, ?_, ?_, e2⟩⟩
    · unfold CF.all at ha
      simp only [List.mem_cons, List.not_mem_nil, or_false] at ha
      rcases ha with rfl | rfl | rfl | rfl | rfl | rfl | rfl
      · exact absurd rfl hne
      · exact k1
      · exact k2
      · exact k3
      · exact k4
      · exact k5
      · exact k6
    · show H11 y2 = some (.lst ((List.replicate _ _).map V.int))
      rw [List.map_replicate]
      exact f3
    · show H11 z2 = some (.lst ((List.replicate _ _).map V.int))
      rw [List.map_replicate]
      exact f4
    · show H11 w2 = some (.lst ((List.replicate _ _).map V.bl))
      rw [List.map_replicate]
      exact f5
    · show [r, la, x2, y2, z2, w2, u1].Nodup
      simp only [List.nodup_cons, List.mem_cons, List.not_mem_nil, or_false, not_or, not_false_eq_true, List.nodup_nil, and_true]
      exact ⟨⟨d1, d2, d4, d7, d11, d16⟩, ⟨d3, d5, d8, d12, d17⟩, ⟨d6, d9, d13, d18⟩, ⟨d10, d14, d19⟩, ⟨d15, d20⟩, d21⟩
    · show (l.length : Int) = b
      omega
    · show ((List.replicate _ _).length : Int) = b * p
      rw [List.length_replicate]
      omega
    · show ((List.replicate _ _).length : Int) = b
      rw [List.length_replicate]
      omega
    · show ((List.replicate _ _).length : Int) = b
      rw [List.length_replicate]
      omega
    · show ((List.replicate _ _).length : Int) = b
      rw [List.length_replicate]
      omega
theorem ChipAt.there {C : Addr} {H : Hp} {r : Addr} {F : CF} {c : Cs} (h : ChipAt C H r F c) : ∀ a ∈ F.all r, ∃ o, H a = some o ∧ ∀ xs, o ≠ .tup xs := fun a ha => by
  obtain ⟨vs, e7, _⟩ := h.lg
  unfold CF.all at ha
  simp only [List.mem_cons, List.not_mem_nil, or_false] at ha
  rcases ha with rfl | rfl | rfl | rfl | rfl | rfl | rfl
  · exact ⟨_, h.obj, fun _ z => by cases z⟩
  · exact ⟨_, h.la, fun _ z => by cases z⟩
  · exact ⟨_, h.st, fun _ z => by cases z⟩
  · exact ⟨_, h.tr, fun _ z => by cases z⟩
  · exact ⟨_, h.cl, fun _ z => by cases z⟩
  · exact ⟨_, h.br, fun _ z => by cases z⟩
  · exact ⟨_, e7, fun _ z => by cases z⟩
theorem ChipAt.fresh {C : Addr} {H : Hp} {r : Addr} {F : CF} {c : Cs} (h : ChipAt C H r F c) {q : Addr} (hq : H q = none) : q ∉ F.all r := fun m => by
  obtain ⟨o, e, _⟩ := h.there q m
  rw [hq] at e; cases e
theorem tups_of {S : List Addr} {H H' : Hp} (h : ∀ a ∈ S, ∃ o, H a = some o ∧ ∀ xs, o ≠ .tup xs) (s : Off S H H') : TupS H H' := fun b ys e => s b _ (fun m => by
  obtain ⟨o, e2, n⟩ := h b m
  rw [e] at e2
  cases e2
  exact n _ rfl) e
theorem x_cinit {T : Txt K mg} {H H1 : Hp} {Q : VK} {E : XK} {x dx : Addr} {b p : Int} (hB : 2 ≤ b ∧ b ≤ 16) (hP : 1 ≤ p ∧ p ≤ 16) (hx : H x = none) (hs : Same H H1) (hn : H1 x = some (.ins T.C_Chip dx []))
    (q : ∀ F H', Same H H' → (∀ a ∈ F.all x, H a = none) → ChipAt T.C_Chip H' x F (Cs.new b p 1000000 (List.replicate b.toNat .non)) → Q .non H') : spCInit T [.ref x, .int b, .int p, .int 1000000, .non] H1 Q E := by
  refine ⟨x, dx, _, _, _, _, some b, some p, some 1000000, [], rfl, hn, .int b, .int p, .int 1000000, .inl ⟨rfl, rfl⟩, fun hg l hl F H' hO hF hC => ?_, fun hno => ?_⟩
  · cases hl
    refine q F H' (Off.same1 hs hO hx) (fun a ha => ?_) hC
    by_cases e : a = x
    · rw [e]; exact hx
    · exact same_none hs (hF a ha e)
  · exfalso
    rcases hno with hno | hno
    · unfold chipGood inB at hno
      have e1 : decide (2 ≤ b ∧ b ≤ 16) = true := decide_eq_true hB
      have e2 : decide (1 ≤ p ∧ p ≤ 16) = true := decide_eq_true hP
      dsimp only at hno
      rw [e1, e2] at hno
      cases hno
    · cases hno
/-! ### reading, and what is told of a block -/
def spRead (T : Txt K mg) : Sp := fun vs H Q E => ∃ (r : Addr) (F : CF) (c : Cs) (vp : V) (o : Option Int), vs = [.ref r, vp] ∧ ChipAt T.C_Chip H r F c ∧ Num vp o ∧ (inB o 0 (c.b * c.p - 1) = false → E (.ref T.C_NoPlace) none H) ∧
  (inB o 0 (c.b * c.p - 1) = true → c.dark = true → E (.ref T.C_PowerGone) none H) ∧ (inB o 0 (c.b * c.p - 1) = true → c.dark = false → Q (c.stuff.getD (o.getD 0).toNat .non) H)
theorem ok_Chip_read (T : Txt K mg) : FO P w K mg base 4 T.a_Chip_read T.fd_Chip_read ["self", "page"] (spRead T) := by
  have sc := sc_Chip_read
  refine T.F_Chip_read.okX sc (fun vs H Q E h => ?_) (fun cdv A outer s H vs Q E hr h => ?_)
  · obtain ⟨_, _, _, _, _, rfl, _⟩ := h
    rfl
  · obtain ⟨r, F, c, vp, o, rfl, hC, hn, q1, q2, q3⟩ := h
    refine ⟨_, (pss_cons (ps_expr (pe_methD (k := 3) (pv 0) (hr.mono (by decide)) (passAt (takes_of rfl rfl rfl rfl)) (pa_cons (pv 1) pa_nil)))
      (pss_cons (ps_expr (pe_methD0 (k := 2) (pv 0) (hr.mono (by decide)) (passAt (takes_of rfl rfl rfl rfl))))
      (pss_one (ps_ret (pe_ix ix_seq (pe_fld (pv 0) rfl) (pv 1) (fun _ _ => rfl)))))), ?_⟩
    walk_at "begin"
    walk_at "go"
    refine x_mPage hC ?_
    walk_at "go"
    refine x_page hC hn (fun hin => ?_) (fun hin => q1 hin)
    have q2' := q2 hin
    have q3' := q3 hin
    obtain ⟨n, rfl, rfl, h0, h1⟩ := hn.of_inB hin
    walk_at "go"
    refine x_mPower hC (fun hd => ?_) (fun hd => q2' hd)
    have ho := hC.obj
    unfold chipF at ho
    have hst := hC.st
    have z4 := hC.sz.stuff
    walk_at "go"
    exact q3' hd
theorem x_mRead {T : Txt K mg} {H : Hp} {Q : VK} {E : XK} {σ : L2.St} {r : Addr} {F : CF} {c : Cs} {t : TA} (hC : ChipAt T.C_Chip H r F c) (h : t σ H fun vs H2 => spRead T (.ref r :: vs) H2 Q E) : mtK P w K mg base (L2.CX P w) 4 "read" E σ t Q (.ref r) H :=
  x_mtK hC.obj ⟨⟨_, _, _, T.cl_Chip, T.m_Chip_read, ok_Chip_read T, T.bd_Chip_read⟩⟩ rfl h
/-- reading a page that is there, with power -/
theorem x_read {T : Txt K mg} {H : Hp} {Q : VK} {E : XK} {r : Addr} {F : CF} {c : Cs} {n : Int} (hC : ChipAt T.C_Chip H r F c) (hd : c.dark = false) (q : Q (c.stuff.getD n.toNat .non) H) (h : 0 ≤ n ∧ n < c.b * c.p) : spRead T [.ref r, .int n] H Q E :=
  ⟨r, F, c, _, some n, rfl, hC, .int n, (fun z => by simp [inB] at z; omega), (fun _ z => by rw [hd] at z; cases z), fun _ _ => q⟩
/-! ### marks -/
def mk (st nm : Int) : Int := st * 128 + nm
theorem mk_or {st nm : Int} (h : 0 ≤ st) (h0 : 0 ≤ nm) (h1 : nm < 128) : Builtin.bitOr (st * 2 ^ (7 : Int).toNat) nm = mk st nm := by
  have e := Bits.bitOr_join' (a := nm) (b := st) (k := 7) h0 (by omega) h
  rw [show (7 : Int).toNat = 7 from rfl, e]
  unfold mk
  omega
theorem mk_and {x : Int} (h : 0 ≤ x) : Builtin.bitAnd x 127 = x % 128 := Bits.bitAnd_mask 7 h
def spMark : Sp := fun vs H Q _ => ∃ st nm : Int, vs = [.int st, .int nm] ∧ (0 ≤ st ∧ st < 10 ^ 45 ∧ 0 ≤ nm ∧ nm < 128) ∧ Q (.int (mk st nm)) H
theorem x_mark {H : Hp} {Q : VK} {E : XK} {st nm : Int} (q : Q (.int (mk st nm)) H) (h : 0 ≤ st ∧ st < 10 ^ 45 ∧ 0 ≤ nm ∧ nm < 128) : spMark [.int st, .int nm] H Q E := ⟨st, nm, rfl, h, q⟩
local macro_rules | `(tactic| walk_at "u") => `(tactic| ((with_reducible refine x_mark ?_ ?hs); (try (case hs => walk_at "side"))))
theorem ok_mark_of (T : Txt K mg) : FO P w K mg base 1 T.a_mark_of T.fd_mark_of ["stamp", "name"] spMark := by
  have sc := sc_mark_of
  refine T.F_mark_of.okX sc (fun vs H Q E h => ?_) (fun cdv A outer s H vs Q E hr h => ?_)
  · obtain ⟨_, _, rfl, _⟩ := h
    rfl
  · obtain ⟨st, nm, rfl, ⟨h1, h2, h3, h4⟩, q⟩ := h
    have hc : CShl st 7 := shl_ok (n := 200) (by
      have : (2:Nat) ^ 200 = 1606938044258990275541962092341162602522202993782792835301376 := by decide
      omega) (by decide)
    refine ⟨_, (pss_one (ps_ret (pe_op op_or (pe_op op_uShl (pv 0) pe_int) (pv 1)))), ?_⟩
    walk_at "begin"
    walk_at "go"
    rw [mk_or h1 h3 h4]
    exact q
/-! ### a mark's parts -/
def spStampOf : Sp := fun vs H Q _ => ∃ m : Int, vs = [.int m] ∧ Q (.int (m / 128)) H
theorem x_stampOf {H : Hp} {Q : VK} {E : XK} {m : Int} (q : Q (.int (m / 128)) H) : spStampOf [.int m] H Q E := ⟨m, rfl, q⟩
local macro_rules | `(tactic| walk_at "u") => `(tactic| (with_reducible refine x_stampOf ?_))
theorem ok_stamp_of (T : Txt K mg) : FO P w K mg base 1 T.a_stamp_of T.fd_stamp_of ["mark"] spStampOf := by
  have sc := sc_stamp_of
  refine T.F_stamp_of.okX sc (fun vs H Q E h => ?_) (fun cdv A outer s H vs Q E hr h => ?_)
  · obtain ⟨_, rfl, _⟩ := h
    rfl
  · obtain ⟨m, rfl, q⟩ := h
    refine ⟨_, (pss_one (ps_ret (pe_op op_shr (pv 0) pe_int))), ?_⟩
    walk_at "begin"
    walk_at "go"
    exact q
def spNameOf : Sp := fun vs H Q _ => ∃ m : Int, vs = [.int m] ∧ 0 ≤ m ∧ Q (.int (m % 128)) H
theorem x_nameOf {H : Hp} {Q : VK} {E : XK} {m : Int} (q : Q (.int (m % 128)) H) (h : 0 ≤ m) : spNameOf [.int m] H Q E := ⟨m, rfl, h, q⟩
local macro_rules | `(tactic| walk_at "u") => `(tactic| ((with_reducible refine x_nameOf ?_ ?hs); (try (case hs => walk_at "side"))))
theorem ok_name_of (T : Txt K mg) : FO P w K mg base 1 T.a_name_of T.fd_name_of ["mark"] spNameOf := by
  have sc := sc_name_of
  refine T.F_name_of.okX sc (fun vs H Q E h => ?_) (fun cdv A outer s H vs Q E hr h => ?_)
  · obtain ⟨_, rfl, _⟩ := h
    rfl
  · obtain ⟨m, rfl, h, q⟩ := h
    refine ⟨_, (pss_one (ps_ret (pe_op op_and (pv 0) pe_int))), ?_⟩
    walk_at "begin"
    walk_at "go"
    rw [mk_and h]
    exact q
/-! ### sheets as bits: the plain law -/
def shN (x : Nat) : List Nat := (List.range 64).filter x.testBit
theorem shN_short {x s : Nat} (hs : s ≤ 64) (h : x < 2 ^ s) : (List.range s).filter x.testBit = shN x := by
  unfold shN
  obtain ⟨j, hj⟩ : ∃ j, 64 = s + j := ⟨64 - s, by omega⟩
  rw [hj, List.range_add, List.filter_append]
  have e : ((List.range j).map (s + ·)).filter x.testBit = [] := List.filter_eq_nil_iff.mpr fun k hk => by
    obtain ⟨i, _, rfl⟩ := List.mem_map.mp hk
    rw [Nat.testBit_lt_two_pow (Nat.lt_of_lt_of_le h (Nat.pow_le_pow_right (by decide) (by omega)))]
    decide
  rw [e, List.append_nil]
theorem range_bit {x s : Nat} : (List.range (s + 1)).filter x.testBit = if x.testBit s = true then (List.range s).filter x.testBit ++ [s] else (List.range s).filter x.testBit := by
  rw [List.range_succ, List.filter_append]
  split
  · rename_i h; simp [h]
  · rename_i h; simp [h]
theorem or_step {b : Nat} {n : Int} : Builtin.bitOr (b : Int) (1 * 2 ^ n.toNat) = ((b ||| 2 ^ n.toNat : Nat) : Int) := by
  have e : (1 : Int) * 2 ^ n.toNat = ((2 ^ n.toNat : Nat) : Int) := by rw [Int.one_mul, Int.natCast_pow]; rfl
  rw [e, bitOr_nn (Int.natCast_nonneg _) (Int.natCast_nonneg _), Int.toNat_natCast, Int.toNat_natCast]
theorem and_one {b : Nat} : Builtin.bitAnd (b : Int) 1 = ((b % 2 : Nat) : Int) := by
  have e : Builtin.bitAnd (b : Int) 1 = (((b : Int).toNat &&& (1 : Int).toNat : Nat) : Int) := by
    have h0 : (0 : Int) ≤ b := Int.natCast_nonneg _
    simp [Builtin.bitAnd, h0]
  rw [e, Int.toNat_natCast]
  show ((b &&& 1 : Nat) : Int) = _
  rw [Nat.and_one_is_mod]
def zI (ks : List Nat) : List Int := ks.map fun k : Nat => (k : Int)
def iN (ks : List Nat) : List V := (zI ks).map V.int
/-! ### the sheets that bits are -/
def spSheets : Sp := fun vs H Q _ => ∃ (x : Nat), vs = [.int (x : Int)] ∧ x < 2 ^ 64 ∧ ∀ p H', Same H H' → H p = none → H' p = some (.lst (iN (shN x))) → Q (.ref p) H'
local macro_rules | `(tactic| walk_at "u") => `(tactic| ((with_reducible refine' x_appO ?ho ?_ ?hl); (case ho => walk_at "hp"); (try (case hl => walk_at "side")); intro H1 hO hI; (try dsimp only)))
theorem ok_sheets_of (T : Txt K mg) : FO P w K mg base 1 T.a_sheets_of T.fd_sheets_of ["bits"] spSheets := by
  have sc := sc_sheets_of
  refine T.F_sheets_of.okX sc (fun vs H Q E h => ?_) (fun cdv A outer s H vs Q E hr h => ?_)
  · obtain ⟨_, rfl, _⟩ := h
    rfl
  · obtain ⟨x, rfl, h1, q⟩ := h
    refine ⟨_, (pss_cons (ps_set (i := 1) sc.nd rfl (by first | exact Or.inl rfl | exact Or.inr rfl) (pe_lst pa_nil))
      (pss_cons (ps_set (i := 2) sc.nd rfl (by first | exact Or.inl rfl | exact Or.inr rfl) pe_int)
      (pss_cons (ps_while (passes_of rfl) (pt_cmpR op_gt (pv 0) pe_int (nomark _)) (pss_cons (ps_if (pt_cmpR (op_uEq hr.units) (pe_op op_and (pv 0) pe_int) pe_int (nomark _)) (pss_one (ps_expr (pe_bm PySem.F.plainAttrs_list PySem.F.slot_list_append PySem.F.type_list_append mt_append (pv 1) (pa_cons (pv 2) pa_nil)))) pss_nil)
      (pss_cons (ps_set (i := 0) sc.nd rfl (by first | exact Or.inl rfl | exact Or.inr rfl) (pe_op op_shr (pv 0) pe_int))
      (pss_one (ps_aug (i := 2) sc.nd rfl (by first | exact Or.inl rfl | exact Or.inr rfl) pe_int ip_add)))))
      (pss_one (ps_ret (pv 1)))))), ?_⟩
    walk_at "begin"
    walk_at "go"
    rename_i p H1 hp hs1 hn1
    refine x_seq ?_
    refine x_whl (fun m σ H' => ∃ s : Nat, s ≤ 64 ∧ m = 64 - s ∧ σ = [some (.int ((x / 2 ^ s : Nat) : Int)), some (.ref p), some (.int (s : Int))] ∧ Same H H' ∧ H' p = some (.lst (iN ((List.range s).filter x.testBit)))) 64
      ⟨0, by omega, rfl, by rw [Nat.pow_zero, Nat.div_one]; rfl, hs1, hn1⟩ ?_
    intro m σ H' ⟨s0, hs64, hm, hσ, hsH, hl⟩
    subst hσ
    walk_at "go"
    refine x_whD (fun hpos N hN => ?_) (fun hz => ?_)
    · have hs : s0 < 64 := by
        rcases Nat.lt_or_ge s0 64 with h | h
        · exact h
        · have e64 : s0 = 64 := by omega
          subst e64
          rw [Nat.div_eq_of_lt h1] at hpos
          exact absurd hpos (by decide)
      have tb : x.testBit s0 = decide (x / 2 ^ s0 % 2 = 1) := Nat.testBit_eq_decide_div_mod_eq
      have e2 : x / 2 ^ (s0 + 1) = x / 2 ^ s0 / 2 := by rw [Nat.pow_succ, Nat.div_div_eq_div_mul]
      refine x_join (fun σ' H2 => σ' = [some (.int ((x / 2 ^ s0 : Nat) : Int)), some (.ref p), some (.int (s0 : Int))] ∧ Same H H2 ∧ H2 p = some (.lst (iN ((List.range (s0 + 1)).filter x.testBit)))) (fun R hR => ?_) ?_
      · have hll : (iN ((List.range s0).filter x.testBit)).length < sizeLine := Nat.lt_of_le_of_lt (show _ ≤ 1000 by
          unfold iN zI
          rw [List.length_map, List.length_map]
          have := List.length_filter_le x.testBit (List.range s0)
          rw [List.length_range] at this
          omega) (by decide)
        walk_at "go"
        rw [and_one]
        refine x_iteD (fun h => ?_) (fun h => ?_)
        · have tbt : x.testBit s0 = true := by rw [tb]; exact decide_eq_true (by exact_mod_cast h)
          walk_at "go"
          rename_i H3 hO hI
          refine hR _ _ ⟨rfl, Off.same1 hsH hO hp, ?_⟩
          rw [range_bit, if_pos tbt, hI]
          unfold iN zI
          rw [List.map_append, List.map_append]
          rfl
        · have tbf : ¬ x.testBit s0 = true := by rw [tb]; exact fun z => h (by exact_mod_cast of_decide_eq_true z)
          walk_at "go"
          refine hR _ _ ⟨rfl, hsH, ?_⟩
          rw [range_bit, if_neg tbf]
          exact hl
      intro σ' H2 ⟨hσ, hs2, hl2⟩
      subst hσ
      walk_at "go"
      refine hN (64 - (s0 + 1)) _ _ (by omega) ⟨s0 + 1, by omega, rfl, ?_, hs2, hl2⟩
      rw [e2, Int.natCast_ediv]
      rfl
    · have hz0 : x / 2 ^ s0 = 0 := by
        generalize x / 2 ^ s0 = y at hz
        omega
      have hlt : x < 2 ^ s0 := by
        rcases Nat.div_eq_zero_iff.mp hz0 with h | h
        · exact absurd h (Nat.ne_of_gt (Nat.two_pow_pos _))
        · exact h
      rw [shN_short hs64 hlt] at hl
      walk_at "go"
      exact q p H' hsH hp hl
/-! ### dicts from numbers to numbers -/
def kvI (ps : List (Int × Int)) : List (L2.Key × V) := ps.map fun e => (.inl e.1, .int e.2)
def getI (ps : List (Int × Int)) (n : Int) : Option Int := (ps.find? fun e => decide (e.1 = n)).map (·.2)
def putI (ps : List (Int × Int)) (n x : Int) : List (Int × Int) := if (ps.any fun e => decide (e.1 = n)) = true then ps.map (fun e => if e.1 = n then (e.1, x) else e) else ps ++ [(n, x)]
def dropI (ps : List (Int × Int)) (n : Int) : List (Int × Int) := ps.filter fun e => decide (e.1 ≠ n)
theorem keyI {m n : Int} : decide ((Sum.inl m : L2.Key) = .inl n) = decide (m = n) := by
  rw [decide_eq_decide]
  exact ⟨fun z => by injection z, fun z => by rw [z]⟩
theorem valV_I {n : Int} : ∀ {ps : List (Int × Int)}, valV (kvI ps) (.inl n) = (getI ps n).map V.int
  | [] => rfl
  | e :: ps => by
    by_cases h : e.1 = n
    · have e1 : valV (kvI (e :: ps)) (.inl n) = some (.int e.2) := valV_pos (p := ((Sum.inl e.1 : L2.Key), V.int e.2)) (by rw [h])
      rw [e1]
      unfold getI
      rw [List.find?_cons, decide_eq_true h]
      rfl
    · have e1 : valV (kvI (e :: ps)) (.inl n) = valV (kvI ps) (.inl n) := valV_neg (p := ((Sum.inl e.1 : L2.Key), V.int e.2)) (fun z => h (Sum.inl.inj z))
      rw [e1, valV_I]
      unfold getI
      rw [List.find?_cons, decide_eq_false h]
theorem putK_I {ps : List (Int × Int)} {n x : Int} : putK (kvI ps) (.inl n) (.int x) = kvI (putI ps n x) := by
  unfold putK putI
  have e : ((kvI ps).any fun kv => decide (kv.1 = .inl n)) = ps.any fun e => decide (e.1 = n) := by
    unfold kvI
    rw [List.any_map]
    exact congrArg (ps.any ·) (funext fun e => keyI)
  rw [e]
  split
  · unfold kvI
    rw [List.map_map, List.map_map]
    refine List.map_congr_left fun e _ => ?_
    show (if (Sum.inl e.1 : L2.Key) = .inl n then _ else _) = _
    by_cases h : e.1 = n
    · rw [if_pos (by rw [h])]
      simp [h]
    · rw [if_neg (fun z => h (by injection z))]
      simp [h]
  · unfold kvI
    rw [List.map_append]
    rfl
theorem dropK_I {ps : List (Int × Int)} {n : Int} : dropK (kvI ps) (.inl n) = kvI (dropI ps n) := by
  unfold dropK dropI kvI
  rw [List.filter_map]
  refine congrArg _ (List.filter_congr fun e _ => ?_)
  show decide ((Sum.inl e.1 : L2.Key) ≠ .inl n) = decide (e.1 ≠ n)
  rw [decide_eq_decide]
  exact ⟨fun z y => z (by rw [y]), fun z y => z (by injection y)⟩
theorem kvI_len {ps : List (Int × Int)} : (kvI ps).length = ps.length := List.length_map _
theorem getI_mem {ps : List (Int × Int)} {n x : Int} (h : getI ps n = some x) : (n, x) ∈ ps := by
  unfold getI at h
  cases hf : ps.find? (fun e => decide (e.1 = n)) with
  | none => rw [hf] at h; simp at h
  | some e =>
    rw [hf] at h
    simp at h
    have h1 := List.mem_of_find?_eq_some hf
    have h2 : e.1 = n := by simpa using List.find?_some hf
    rw [← h2, ← h]
    exact h1
/-! ### the book -/
structure Bk where
  b : Int
  p : Int
  wh : List (Int × Int)
  nm : List V
  live : List Int
  fil : List Int
  born : List Int
  stamp : Int
structure BF where
  dx : Addr
  wh : Addr
  nm : Addr
  lv : Addr
  fl : Addr
  bn : Addr
def bookF (F : BF) (k : Bk) : List (Str × V) := [("blocks", .int k.b), ("pages", .int k.p), ("where", .ref F.wh), ("names", .ref F.nm), ("live", .ref F.lv), ("filled", .ref F.fl), ("born", .ref F.bn), ("stamp", .int k.stamp)]
def BF.all (F : BF) (r : Addr) : List Addr := [r, F.wh, F.nm, F.lv, F.fl, F.bn]
/-- what a book is like -/
structure BkOk (k : Bk) : Prop where
  b : 2 ≤ k.b ∧ k.b ≤ 16
  p : 1 ≤ k.p ∧ k.p ≤ 16
  nm : (k.nm.length : Int) = k.b * k.p
  live : (k.live.length : Int) = k.b
  fil : (k.fil.length : Int) = k.b
  born : (k.born.length : Int) = k.b
  wh : ∀ e ∈ k.wh, 0 ≤ e.2 ∧ e.2 < k.b * k.p
  whl : k.wh.length ≤ 900
  st : 0 ≤ k.stamp ∧ k.stamp < 10 ^ 40
structure BookAt (C : Addr) (H : Hp) (r : Addr) (F : BF) (k : Bk) : Prop where
  obj : H r = some (.ins C F.dx (bookF F k))
  wh : H F.wh = some (.dK (kvI k.wh))
  nm : H F.nm = some (.lst k.nm)
  lv : H F.lv = some (.lst (k.live.map V.int))
  fl : H F.fl = some (.lst (k.fil.map V.int))
  bn : H F.bn = some (.lst (k.born.map V.int))
  nd : (BF.all F r).Nodup
theorem BookAt.mono {C : Addr} {H H' : Hp} {r : Addr} {F : BF} {k : Bk} (s : Same H H') (h : BookAt C H r F k) : BookAt C H' r F k := ⟨s _ _ h.obj, s _ _ h.wh, s _ _ h.nm, s _ _ h.lv, s _ _ h.fl, s _ _ h.bn, h.nd⟩
theorem BookAt.off {C : Addr} {H H' : Hp} {r : Addr} {F : BF} {k : Bk} {S : List Addr} (h : BookAt C H r F k) (s : Off S H H') (n : ∀ a, a ∈ F.all r → a ∉ S) : BookAt C H' r F k := by
  unfold BF.all at n
  exact ⟨s.at h.obj (n _ (by simp)), s.at h.wh (n _ (by simp)), s.at h.nm (n _ (by simp)), s.at h.lv (n _ (by simp)), s.at h.fl (n _ (by simp)), s.at h.bn (n _ (by simp)), h.nd⟩
theorem BookAt.ne {C : Addr} {H : Hp} {r : Addr} {F : BF} {k : Bk} (h : BookAt C H r F k) : (r ≠ F.wh ∧ r ≠ F.nm ∧ r ≠ F.lv ∧ r ≠ F.fl ∧ r ≠ F.bn) ∧ (F.wh ≠ F.nm ∧ F.wh ≠ F.lv ∧ F.wh ≠ F.fl ∧ F.wh ≠ F.bn) ∧ (F.nm ≠ F.lv ∧ F.nm ≠ F.fl ∧ F.nm ≠ F.bn) ∧ (F.lv ≠ F.fl ∧ F.lv ≠ F.bn) ∧ F.fl ≠ F.bn := by
  have d := h.nd
  unfold BF.all at d
  simp only [List.nodup_cons, List.mem_cons, List.not_mem_nil, or_false, not_or, not_false_eq_true, List.nodup_nil, and_true] at d
  exact d
theorem BookAt.there {C : Addr} {H : Hp} {r : Addr} {F : BF} {k : Bk} (h : BookAt C H r F k) : ∀ a ∈ F.all r, ∃ o, H a = some o ∧ ∀ xs, o ≠ .tup xs := fun a ha => by
  unfold BF.all at ha
  simp only [List.mem_cons, List.not_mem_nil, or_false] at ha
  rcases ha with rfl | rfl | rfl | rfl | rfl | rfl
  · exact ⟨_, h.obj, fun _ z => by cases z⟩
  · exact ⟨_, h.wh, fun _ z => by cases z⟩
  · exact ⟨_, h.nm, fun _ z => by cases z⟩
  · exact ⟨_, h.lv, fun _ z => by cases z⟩
  · exact ⟨_, h.fl, fun _ z => by cases z⟩
  · exact ⟨_, h.bn, fun _ z => by cases z⟩
theorem BookAt.fresh {C : Addr} {H : Hp} {r : Addr} {F : BF} {k : Bk} (h : BookAt C H r F k) {q : Addr} (hq : H q = none) : q ∉ F.all r := fun m => by
  obtain ⟨o, e, _⟩ := h.there q m
  rw [hq] at e
  cases e
def Bk.new (b p : Int) : Bk := { b, p, wh := [], nm := List.replicate (b * p).toNat .non, live := List.replicate b.toNat 0, fil := List.replicate b.toNat 0, born := List.replicate b.toNat 0, stamp := 1 }
theorem Bk.new_ok {b p : Int} (hb : 2 ≤ b ∧ b ≤ 16) (hp : 1 ≤ p ∧ p ≤ 16) : BkOk (Bk.new b p) := by
  have hbp : 0 ≤ b * p := Int.mul_nonneg (by omega) (by omega)
  refine ⟨hb, hp, ?_, ?_, ?_, ?_, (fun e h => by cases h), (by show 0 ≤ 900; decide), ⟨(by show (0:Int) ≤ 1; decide), (by show (1:Int) < 10 ^ 40; decide)⟩⟩
  · show ((List.replicate _ _).length : Int) = b * p
    rw [List.length_replicate]; omega
  · show ((List.replicate _ _).length : Int) = b
    rw [List.length_replicate]; omega
  · show ((List.replicate _ _).length : Int) = b
    rw [List.length_replicate]; omega
  · show ((List.replicate _ _).length : Int) = b
    rw [List.length_replicate]; omega
local macro_rules | `(tactic| walk_at "u") => `(tactic| ((with_reducible refine' x_appO ?ho ?_ ?hl); (case ho => walk_at "hp"); (try (case hl => walk_at "side")); intro H1 hO hI; (try dsimp only)))
def spBInit (T : Txt K mg) : Sp := fun vs H Q _ => ∃ (r dx : Addr) (b p : Int), vs = [.ref r, .int b, .int p] ∧ H r = some (.ins T.C_Book dx []) ∧ (2 ≤ b ∧ b ≤ 16) ∧ (1 ≤ p ∧ p ≤ 16) ∧
  ∀ F H', Off [r] H H' → (∀ a ∈ F.all r, a ≠ r → H a = none) → BookAt T.C_Book H' r F (Bk.new b p) → Q .non H'
theorem ok_Book_init (T : Txt K mg) : FO P w K mg base 1 T.a_Book_init T.fd_Book_init ["self", "blocks", "pages"] (spBInit T) := by
  have sc := sc_Book_init
  refine T.F_Book_init.okX sc (fun vs H Q E h => ?_) (fun cdv A outer s H vs Q E hr h => ?_)
  · obtain ⟨_, _, _, _, rfl, _⟩ := h
    rfl
  · obtain ⟨r, dx, b, p, rfl, hR, hb, hp, q⟩ := h
    refine ⟨_, (pss_cons (ps_fld (pv 0) (pv 1) rfl)
      (pss_cons (ps_fld (pv 0) (pv 2) rfl)
      (pss_cons (ps_fld (pv 0) pe_dnewK rfl)
      (pss_cons (ps_fld (pv 0) (pe_op op_uMul (pe_lst (pa_cons pe_non pa_nil)) (pe_op op_uMul (pv 1) (pv 2))) rfl)
      (pss_cons (ps_fld (pv 0) (pe_op op_uMul (pe_lst (pa_cons pe_int pa_nil)) (pv 1)) rfl)
      (pss_cons (ps_fld (pv 0) (pe_op op_uMul (pe_lst (pa_cons pe_int pa_nil)) (pv 1)) rfl)
      (pss_cons (ps_fld (pv 0) (pe_op op_uMul (pe_lst (pa_cons pe_int pa_nil)) (pv 1)) rfl)
      (pss_one (ps_fld (pv 0) pe_int rfl))))))))), ?_⟩
    have hBP0 : 0 ≤ b * p := Int.mul_nonneg (by omega) (by omega)
    have hBP : b * p ≤ 16 * 16 := Int.mul_le_mul hb.2 hp.2 (by omega) (by decide)
    walk_at "begin"
    walk_at "go"
    rename_i H1 hO1 hI1 H2 hO2 hI2 wh W1 hwh sw nw H3 hO3 hI3 x1 A1 hx1 sx1 nx1 nm A2 hnm snm nnm H4 hO4 hI4 y1 A3 hy1 sy1 ny1 lw A4 hlv slv nlv H5 hO5 hI5 z1 A5 hz1 sz1 nz1 fl A6 hfl sfl nfl H6 hO6 hI6 w1 A7 hw1 sw1 nw1 bn A8 hbn sbn nbn H7 hO7 hI7 H8 hO8 hI8
    have c1 : r ≠ wh := ne_of_none hI2 hwh
    have c2 : r ≠ nm := ne_of_none (sx1 _ _ hI3) hnm
    have c3 : r ≠ lw := ne_of_none (sy1 _ _ hI4) hlv
    have c4 : r ≠ fl := ne_of_none (sz1 _ _ hI5) hfl
    have c5 : r ≠ bn := ne_of_none (sw1 _ _ hI6) hbn
    have c6 : wh ≠ nm := by walk_at "nn"
    have c7 : wh ≠ lw := by walk_at "nn"
    have c8 : wh ≠ fl := by walk_at "nn"
    have c9 : wh ≠ bn := by walk_at "nn"
    have c10 : nm ≠ lw := by walk_at "nn"
    have c11 : nm ≠ fl := by walk_at "nn"
    have c12 : nm ≠ bn := by walk_at "nn"
    have c13 : lw ≠ fl := by walk_at "nn"
    have c14 : lw ≠ bn := by walk_at "nn"
    have c15 : fl ≠ bn := by walk_at "nn"
    have f1 : H8 wh = some (.dK []) := by walk_at "hp"
    have f2 : H8 nm = some (.lst (List.replicate (b * p).toNat .non)) := by walk_at "hp"
    have f3 : H8 lw = some (.lst (List.replicate b.toNat (.int 0))) := by walk_at "hp"
    have f4 : H8 fl = some (.lst (List.replicate b.toNat (.int 0))) := by walk_at "hp"
    have f5 : H8 bn = some (.lst (List.replicate b.toNat (.int 0))) := by walk_at "hp"
    have o1 : Off [r] H H2 := hO1.trans hO2
    have o3 : Off [r] H H3 := (o1.trans (Off.of sw)).trans hO3
    have o4 : Off [r] H H4 := (o3.trans (Off.of (sx1.trans snm))).trans hO4
    have o5 : Off [r] H H5 := (o4.trans (Off.of (sy1.trans slv))).trans hO5
    have o6 : Off [r] H H6 := (o5.trans (Off.of (sz1.trans sfl))).trans hO6
    have o8 : Off [r] H H8 := ((o6.trans (Off.of (sw1.trans sbn))).trans hO7).trans hO8
    refine q ⟨dx, wh, nm, lw, fl, bn⟩ H8 o8 (fun a ha hne => ?_) ⟨hI8, f1, f2, ?_, ?_, ?_, ?_⟩
    · unfold BF.all at ha
      simp only [List.mem_cons, List.not_mem_nil, or_false] at ha
      rcases ha with rfl | rfl | rfl | rfl | rfl | rfl
      · exact absurd rfl hne
      · exact off_none o1 hwh hne
      · exact off_none o3 (same_none sx1 hnm) hne
      · exact off_none o4 (same_none sy1 hlv) hne
      · exact off_none o5 (same_none sz1 hfl) hne
      · exact off_none o6 (same_none sw1 hbn) hne
    · show H8 lw = some (.lst ((List.replicate _ _).map V.int))
      rw [List.map_replicate]; exact f3
    · show H8 fl = some (.lst ((List.replicate _ _).map V.int))
      rw [List.map_replicate]; exact f4
    · show H8 bn = some (.lst ((List.replicate _ _).map V.int))
      rw [List.map_replicate]; exact f5
    · unfold BF.all
      simp only [List.nodup_cons, List.mem_cons, List.not_mem_nil, or_false, not_or, not_false_eq_true, List.nodup_nil, and_true]
      exact ⟨⟨c1, c2, c3, c4, c5⟩, ⟨c6, c7, c8, c9⟩, ⟨c10, c11, c12⟩, ⟨c13, c14⟩, c15⟩
def Bk.drop (k : Bk) (n : Int) : Bk := match getI k.wh n with
  | none => k
  | some x => { k with wh := dropI k.wh n, nm := k.nm.set x.toNat .non, live := k.live.set (x / k.p).toNat (k.live.getD (x / k.p).toNat 0 - 1) }
def spForget (T : Txt K mg) : Sp := fun vs H Q _ => ∃ (r : Addr) (F : BF) (k : Bk) (n : Int), vs = [.ref r, .int n] ∧ BookAt T.C_Book H r F k ∧ BkOk k ∧
  ∀ H', Off (F.all r) H H' → BookAt T.C_Book H' r F (k.drop n) → Q .non H'
theorem ok_Book_forget (T : Txt K mg) : FO P w K mg base 1 T.a_Book_forget T.fd_Book_forget ["self", "name"] (spForget T) := by
  have sc := sc_Book_forget
  refine T.F_Book_forget.okX sc (fun vs H Q E h => ?_) (fun cdv A outer s H vs Q E hr h => ?_)
  · obtain ⟨_, _, _, _, rfl, _⟩ := h
    rfl
  · obtain ⟨r, F, k, n, rfl, hB, hk, q⟩ := h
    refine ⟨_, (pss_one (ps_if (pt_cmp (pc_din (hu_of hr) (pv 1) (pe_fld (pv 0) rfl))) (pss_cons (ps_set (i := 2) sc.nd rfl (by first | exact Or.inl rfl | exact Or.inr rfl) (pe_dpop1 (pe_fld (pv 0) rfl) (pv 1) ⟨rfl, rfl, rfl, rfl⟩))
      (pss_cons (ps_asg pe_non (pg_sub (pe_fld (pv 0) rfl) (pv 2) set_list))
      (pss_one (ps_augS (pe_fld (pv 0) rfl) (pe_op op_fdivW (pv 2) (pe_fld (pv 0) rfl)) get_list pe_int ip_sub set_list)))) pss_nil)), ?_⟩
    obtain ⟨⟨n1, n2, n3, n4, n5⟩, ⟨n6, n7, n8, n9⟩, ⟨n10, n11, n12⟩, ⟨n13, n14⟩, n15⟩ := hB.ne
    have ho := hB.obj
    have a1 := hB.wh
    have a2 := hB.nm
    have a3 := hB.lv
    have a4 := hB.fl
    have a5 := hB.bn
    have z1 := hk.nm
    have z2 := hk.live
    have z3 := hk.p
    have z4 := hk.b
    unfold bookF at ho
    unfold Bk.drop at q
    walk_at "begin"
    walk_at "go"
    rw [valV_I]
    cases hg : getI k.wh n with
    | none =>
      rw [hg] at q
      walk_at "go"
      exact q H Off.refl hB
    | some x =>
      rw [hg] at q
      have hx := hk.wh _ (getI_mem hg)
      dsimp only at hx
      have hb0 : 0 ≤ x / k.p := Int.ediv_nonneg hx.1 (by omega)
      have hb1 : x / k.p < k.b := Int.ediv_lt_of_lt_mul (by omega) hx.2
      refine iteT ?_
      walk_at "go"
      refine x_dpp1I (v := .int x) (by walk_at "hp") (by rw [valV_I, hg]; rfl) (fun H1 hO1 hI1 => ?_)
      rw [dropK_I] at hI1
      walk_at "go"
      rename_i H2 hO2 hI2 H3 hO3 hI3
      have f0 : H3 r = some (.ins T.C_Book F.dx (bookF F k)) := by unfold bookF; walk_at "hp"
      have f1 : H3 F.wh = some (.dK (kvI (dropI k.wh n))) := by walk_at "hp"
      have f2 : H3 F.nm = some (.lst (k.nm.set x.toNat .non)) := by walk_at "hp"
      have f4 : H3 F.fl = some (.lst (k.fil.map V.int)) := by walk_at "hp"
      have f5 : H3 F.bn = some (.lst (k.born.map V.int)) := by walk_at "hp"
      have one : ∀ {y : Addr} {Ha Hb : Hp}, y ∈ F.all r → Off [y] Ha Hb → Off (F.all r) Ha Hb := fun hy h => h.sub fun b hb => by rw [List.mem_singleton.mp hb]; exact hy
      exact q H3 (((one (by simp [BF.all]) hO1).trans (one (by simp [BF.all]) hO2)).trans (one (by simp [BF.all]) hO3)) ⟨f0, f1, f2, by rw [List.map_set]; exact hI3, f4, f5, hB.nd⟩
theorem BkOk.drop {k : Bk} (h : BkOk k) (n : Int) : BkOk (k.drop n) := by
  unfold Bk.drop
  split
  · exact h
  · exact ⟨h.b, h.p, by show ((k.nm.set _ _).length : Int) = _; rw [List.length_set]; exact h.nm, by show ((k.live.set _ _).length : Int) = _; rw [List.length_set]; exact h.live, h.fil, h.born, fun e he => h.wh e (List.mem_filter.mp he).1, Nat.le_trans (List.length_filter_le _ _) h.whl, h.st⟩
theorem drop_b {k : Bk} {n : Int} : (k.drop n).b = k.b := by unfold Bk.drop; split <;> rfl
theorem drop_p {k : Bk} {n : Int} : (k.drop n).p = k.p := by unfold Bk.drop; split <;> rfl
theorem drop_whl {k : Bk} {n : Int} : (k.drop n).wh.length ≤ k.wh.length := by
  unfold Bk.drop
  split
  · exact Nat.le_refl _
  · exact List.length_filter_le _ _
theorem drop_st {k : Bk} {n : Int} : (k.drop n).stamp = k.stamp := by unfold Bk.drop; split <;> rfl
theorem x_mForget {T : Txt K mg} {H : Hp} {Q : VK} {E : XK} {σ : L2.St} {r : Addr} {F : BF} {k : Bk} {t : TA} (hB : BookAt T.C_Book H r F k) (h : t σ H fun vs H2 => spForget T (.ref r :: vs) H2 Q E) : mtK P w K mg base (L2.CX P w) 1 "forget" E σ t Q (.ref r) H :=
  x_mtK hB.obj ⟨⟨_, _, _, T.cl_Book, T.m_Book_forget, ok_Book_forget T, T.bd_Book_forget⟩⟩ rfl h
def Bk.note (k : Bk) (pg n : Int) : Bk :=
  { (k.drop n) with born := (if (k.drop n).fil.getD (pg / k.p).toNat 0 = 0 then (k.drop n).born.set (pg / k.p).toNat (k.drop n).stamp else (k.drop n).born), fil := (k.drop n).fil.set (pg / k.p).toNat ((k.drop n).fil.getD (pg / k.p).toNat 0 + 1), live := (k.drop n).live.set (pg / k.p).toNat ((k.drop n).live.getD (pg / k.p).toNat 0 + 1), nm := (k.drop n).nm.set pg.toNat (.int n), wh := putI (k.drop n).wh n pg, stamp := (k.drop n).stamp + 1 }
def spNote (T : Txt K mg) : Sp := fun vs H Q _ => ∃ (r : Addr) (F : BF) (k : Bk) (pg n : Int), vs = [.ref r, .int pg, .int n] ∧ BookAt T.C_Book H r F k ∧ BkOk k ∧ 0 ≤ pg ∧ pg < k.b * k.p ∧
  ∀ H', Off (F.all r) H H' → BookAt T.C_Book H' r F (k.note pg n) → Q .non H'
theorem ok_Book_note (T : Txt K mg) : FO P w K mg base 2 T.a_Book_note T.fd_Book_note ["self", "page", "name"] (spNote T) := by
  have sc := sc_Book_note
  refine T.F_Book_note.okX sc (fun vs H Q E h => ?_) (fun cdv A outer s H vs Q E hr h => ?_)
  · obtain ⟨_, _, _, _, _, rfl, _⟩ := h
    rfl
  · obtain ⟨r, F, k, pg, n, rfl, hB, hk, h0, h1, q⟩ := h
    refine ⟨_, (pss_cons (ps_expr (pe_methD (k := 1) (pv 0) (hr.mono (by decide)) (passAt (takes_of rfl rfl rfl rfl)) (pa_cons (pv 2) pa_nil)))
      (pss_cons (ps_set (i := 3) sc.nd rfl (by first | exact Or.inl rfl | exact Or.inr rfl) (pe_op op_fdivW (pv 1) (pe_fld (pv 0) rfl)))
      (pss_cons (ps_if (pt_cmpR (op_uEq hr.units) (pe_ix ix_seq (pe_fld (pv 0) rfl) (pv 3) (fun _ _ => rfl)) pe_int (nomark _)) (pss_one (ps_asg (pe_fld (pv 0) rfl) (pg_sub (pe_fld (pv 0) rfl) (pv 3) set_list))) pss_nil)
      (pss_cons (ps_augS (pe_fld (pv 0) rfl) (pv 3) get_list pe_int ip_add set_list)
      (pss_cons (ps_augS (pe_fld (pv 0) rfl) (pv 3) get_list pe_int ip_add set_list)
      (pss_cons (ps_asg (pv 2) (pg_sub (pe_fld (pv 0) rfl) (pv 1) set_list))
      (pss_cons (ps_dput (hu_of hr) (pe_fld (pv 0) rfl) (pv 2) (pv 1) rfl)
      (pss_one (ps_fldaug (pv 0) pe_int in_add))))))))), ?_⟩
    obtain ⟨⟨n1, n2, n3, n4, n5⟩, ⟨n6, n7, n8, n9⟩, ⟨n10, n11, n12⟩, ⟨n13, n14⟩, n15⟩ := hB.ne
    have hk1 := hk.drop n
    have hpb := hk.p
    have hbb := hk.b
    have hb0 : 0 ≤ pg / k.p := Int.ediv_nonneg h0 (by omega)
    have hb1 : pg / k.p < k.b := Int.ediv_lt_of_lt_mul (by omega) h1
    have eb := drop_b (k := k) (n := n)
    have ep := drop_p (k := k) (n := n)
    unfold Bk.note at q
    walk_at "begin"
    walk_at "go"
    refine x_mForget hB ?_
    walk_at "go"
    refine ⟨r, F, k, n, rfl, hB, hk, fun H1 hO1 hB1 => ?_⟩
    generalize k.drop n = k1 at q hk1 hB1 eb ep
    have ho := hB1.obj
    have a1 := hB1.wh
    have a2 := hB1.nm
    have a3 := hB1.lv
    have a4 := hB1.fl
    have a5 := hB1.bn
    have z1 := hk1.nm
    have z2 := hk1.live
    have z3 := hk1.fil
    have z4 := hk1.born
    have z5 := hk1.whl
    rw [eb] at z1 z2 z3 z4
    rw [ep] at z1
    unfold bookF at ho
    rw [ep] at ho
    have hO1' := hO1
    clear hO1
    walk_at "go"
    refine x_join (fun σ' H2 => σ' = [some (.ref r), some (.int pg), some (.int n), some (.int (pg / k.p))] ∧ Off [F.bn] H1 H2 ∧ H2 F.bn = some (.lst ((if k1.fil.getD (pg / k.p).toNat 0 = 0 then k1.born.set (pg / k.p).toNat k1.stamp else k1.born).map V.int))) (fun R hR => ?_) ?_
    · walk_at "go"
      refine x_iteD (fun h => ?_) (fun h => ?_)
      · walk_at "go"
        rename_i H2 hO2 hI2
        exact hR _ _ ⟨rfl, hO2, by rw [if_pos h, List.map_set]; exact hI2⟩
      · walk_at "go"
        exact hR _ _ ⟨rfl, Off.refl, by rw [if_neg h]; exact a5⟩
    intro σ' H2 ⟨hσ, hO2, hI2⟩
    subst hσ
    walk_at "go"
    rename_i H3 hO3 hI3 H4 hO4 hI4 H5 hO5 hI5
    have e1 : H5 F.wh = some (.dK (kvI k1.wh)) := by walk_at "hp"
    refine x_dpI (kvs' := kvI (putI k1.wh n pg)) (by exact e1) putK_I (fun H6 hO6 hI6 => ?_) (by rw [kvI_len]; omega)
    walk_at "go"
    have e2 : H6 r = some (.ins T.C_Book F.dx [("blocks", .int k1.b), ("pages", .int k.p), ("where", .ref F.wh), ("names", .ref F.nm), ("live", .ref F.lv), ("filled", .ref F.fl), ("born", .ref F.bn), ("stamp", .int k1.stamp)]) := by walk_at "hp"
    refine x_faK e2 rfl ?_ T.cl_Book T.na_Book_stamp
    walk_at "go"
    refine x_f3O (fs' := [("blocks", .int k1.b), ("pages", .int k.p), ("where", .ref F.wh), ("names", .ref F.nm), ("live", .ref F.lv), ("filled", .ref F.fl), ("born", .ref F.bn), ("stamp", .int (k1.stamp + 1))]) e2 rfl (fun H7 hO7 hI7 => ?_) (Nat.le_of_ble_eq_true rfl)
    have f1 : H7 F.wh = some (.dK (kvI (putI k1.wh n pg))) := by walk_at "hp"
    have f2 : H7 F.nm = some (.lst (k1.nm.set pg.toNat (.int n))) := by walk_at "hp"
    have f3 : H7 F.lv = some (.lst ((k1.live.set (pg / k.p).toNat (k1.live.getD (pg / k.p).toNat 0 + 1)).map V.int)) := by rw [List.map_set]; walk_at "hp"
    have f4 : H7 F.fl = some (.lst ((k1.fil.set (pg / k.p).toNat (k1.fil.getD (pg / k.p).toNat 0 + 1)).map V.int)) := by rw [List.map_set]; walk_at "hp"
    have f5 : H7 F.bn = some (.lst ((if k1.fil.getD (pg / k.p).toNat 0 = 0 then k1.born.set (pg / k.p).toNat k1.stamp else k1.born).map V.int)) := by walk_at "hp"
    have one : ∀ {y : Addr} {Ha Hb : Hp}, y ∈ F.all r → Off [y] Ha Hb → Off (F.all r) Ha Hb := fun hy h => h.sub fun b hb => by rw [List.mem_singleton.mp hb]; exact hy
    refine q H7 (((((hO1'.trans (one (by simp [BF.all]) hO2)).trans (one (by simp [BF.all]) hO3)).trans (one (by simp [BF.all]) hO4)).trans (one (by simp [BF.all]) hO5)).trans ((one (by simp [BF.all]) hO6).trans (one (by simp [BF.all]) hO7))) ⟨?_, f1, f2, f3, f4, f5, hB.nd⟩
    rw [← ep] at hI7
    exact hI7
theorem putI_mem {ps : List (Int × Int)} {n x : Int} {e : Int × Int} (h : e ∈ putI ps n x) : e ∈ ps ∨ e.2 = x := by
  unfold putI at h
  split at h
  · obtain ⟨y, hy, rfl⟩ := List.mem_map.mp h
    split
    · exact .inr rfl
    · exact .inl hy
  · rcases List.mem_append.mp h with h | h
    · exact .inl h
    · rw [List.mem_singleton.mp h]; exact .inr rfl
theorem putI_len {ps : List (Int × Int)} {n x : Int} : (putI ps n x).length ≤ ps.length + 1 := by
  unfold putI
  split
  · rw [List.length_map]; exact Nat.le_succ _
  · rw [List.length_append]; exact Nat.le_refl _
theorem BkOk.note {k : Bk} (h : BkOk k) {pg n : Int} (h0 : 0 ≤ pg) (h1 : pg < k.b * k.p) (hl : k.wh.length < 900) (hs : k.stamp + 1 < 10 ^ 40) : BkOk (k.note pg n) := by
  have d := h.drop n
  have eb := drop_b (k := k) (n := n)
  have ep := drop_p (k := k) (n := n)
  have es := drop_st (k := k) (n := n)
  have el := drop_whl (k := k) (n := n)
  unfold Bk.note
  refine ⟨d.b, d.p, ?_, ?_, ?_, ?_, fun e he => ?_, ?_, ?_⟩
  · show (((k.drop n).nm.set _ _).length : Int) = _; rw [List.length_set]; exact d.nm
  · show (((k.drop n).live.set _ _).length : Int) = _; rw [List.length_set]; exact d.live
  · show (((k.drop n).fil.set _ _).length : Int) = _; rw [List.length_set]; exact d.fil
  · dsimp only
    split
    · rw [List.length_set]; exact d.born
    · exact d.born
  · rcases putI_mem he with he | he
    · exact d.wh e he
    · show 0 ≤ e.2 ∧ e.2 < (k.drop n).b * (k.drop n).p
      rw [he, eb, ep]; exact ⟨h0, h1⟩
  · exact Nat.le_trans putI_len (by omega)
  · show 0 ≤ (k.drop n).stamp + 1 ∧ (k.drop n).stamp + 1 < 10 ^ 40
    rw [es]
    have := h.st
    exact ⟨by omega, hs⟩
theorem x_mNote {T : Txt K mg} {H : Hp} {Q : VK} {E : XK} {σ : L2.St} {r : Addr} {F : BF} {k : Bk} {t : TA} (hB : BookAt T.C_Book H r F k) (h : t σ H fun vs H2 => spNote T (.ref r :: vs) H2 Q E) : mtK P w K mg base (L2.CX P w) 2 "note" E σ t Q (.ref r) H :=
  x_mtK hB.obj ⟨⟨_, _, _, T.cl_Book, T.m_Book_note, ok_Book_note T, T.bd_Book_note⟩⟩ rfl h
local macro_rules | `(tactic| walk_at "u") => `(tactic| ((with_reducible refine x_mark ?_ ?hs); (try (case hs => walk_at "side"))))
/-! ### the sheets that a book holds -/
def heldL (k : Bk) : List Int := sortZ ((k.wh.map (·.1)).filter fun n => decide (n ≠ 64))
def spBHeld (T : Txt K mg) : Sp := fun vs H Q _ => ∃ (r : Addr) (F : BF) (k : Bk), vs = [.ref r] ∧ BookAt T.C_Book H r F k ∧ BkOk k ∧ ∀ p H', Same H H' → H p = none → H' p = some (.lst ((heldL k).map V.int)) → Q (.ref p) H'
theorem ok_Book_held (T : Txt K mg) : FO P w K mg base 2 T.a_Book_held T.fd_Book_held ["self"] (spBHeld T) := by
  have sc := sc_Book_held
  refine T.F_Book_held.okX sc (fun vs H Q E h => ?_) (fun cdv A outer s H vs Q E hr h => ?_)
  · obtain ⟨_, _, _, rfl, _⟩ := h
    rfl
  · obtain ⟨r, F, k, rfl, hB, hk, q⟩ := h
    refine ⟨_, (pss_one (ps_ret (pe_callB (cr_usorted) (by rfl) T.b_sorted bt_sorted (pa_cons (pe_lock (pe_lc (own := [("name", 1)]) (by rfl) sc.nd (pi_keys (pe_fld (pv 0) rfl)) (blkOk_by (own := [("name", 1)]) (N := N_Book_held) (sc := defScope s_Book_held) (by decide +kernel)) (fun _ _ _ _ _ => (pg_name (i := 1) sc.nd rfl (by first | exact Or.inl rfl | exact Or.inr rfl))) (fun _ _ _ _ _ => (pts_one (pt_cmpR (K_ne (K := K) hr.units) (pv 1) (pe_glob rfl T.g_ROLL T.r_ROLL) (nomark _)))) (fun _ _ _ _ _ => (pv 1)))) pa_nil)))), ?_⟩
    have ho := hB.obj
    unfold bookF at ho
    have n1 := hB.ne.1.1
    have hwl := hk.whl
    walk_at "begin"
    walk_at "go"
    refine x_lcDK hB.wh (fun od Q' q' => ?_) (fun i acc H' => acc = (((k.wh.map (·.1)).take i).filter fun n => decide (n ≠ 64)).map V.int) (fun _ _ _ _ _ h => h) (Nat.lt_of_le_of_lt (show _ ≤ 1000 by rw [kvI_len]; omega) (by decide)) rfl ?_ ?_
    · have ho2 := (upd_ne (H := H) (o := .frz od (.dK (kvI k.wh))) n1).trans ho
      walk_at "go"
      exact q'
    · intro i kk v acc H' hk' hO hfr ha NY NN hY hN
      unfold kvI at hk'
      rw [List.getElem?_map] at hk'
      cases he : k.wh[i]? with
      | none => rw [he] at hk'; simp at hk'
      | some e =>
        rw [he] at hk'
        simp at hk'
        obtain ⟨rfl, rfl⟩ := hk'
        have ek : (k.wh.map (·.1)).take (i + 1) = (k.wh.map (·.1)).take i ++ [e.1] := by
          rw [List.take_add_one, List.getElem?_map, he]
          rfl
        dsimp only [wipe, kV]
        walk_at "go"
        refine ⟨rfl, ?_⟩
        walk_at "go"
        by_cases h64 : e.1 = 64
        · rw [decide_eq_true h64]
          refine x_iteB (fun _ => ?_) (fun h => absurd h (by decide))
          refine hN _ (fun _ _ h => h) ?_
          show acc = _
          rw [ek, List.filter_append, List.filter_cons_of_neg (by simp [h64]), List.filter_nil, List.append_nil]
          exact ha
        · rw [decide_eq_false h64]
          refine x_iteB (fun h => absurd h (by decide)) (fun _ => ?_)
          walk_at "go"
          refine hY _ _ (fun _ _ h => h) ?_
          show acc ++ _ = _
          rw [ek, List.filter_append, List.filter_cons_of_pos (by simp [h64]), List.filter_nil, List.map_append, ha]
          rfl
    · intro p acc H1 hp hs1 hn1 ha
      rw [ha, kvI_len, ← List.length_map (f := fun e : Int × Int => e.1), List.take_length] at hn1
      walk_at "go"
      refine x_sortI (SqL.of hn1) fun p2 H2 hp2 hs2 hn2 => ?_
      exact q p2 H2 (hs1.trans hs2) (same_none hs1 hp2) hn2
theorem x_mBHeld {T : Txt K mg} {H : Hp} {Q : VK} {E : XK} {σ : L2.St} {r : Addr} {F : BF} {k : Bk} (hB : BookAt T.C_Book H r F k) (hk : BkOk k) (q : ∀ p H', Same H H' → H p = none → H' p = some (.lst ((heldL k).map V.int)) → Q (.ref p) H') : mtK P w K mg base (L2.CX P w) 2 "held" E σ tNil Q (.ref r) H :=
  x_mtK hB.obj ⟨⟨_, _, _, T.cl_Book, T.m_Book_held, ok_Book_held T, T.bd_Book_held⟩⟩ rfl ⟨r, F, k, rfl, hB, hk, q⟩
/-! ### tallies -/
structure Tal where
  b : Int
  l : Int
  c : Int
  o : Int
def Tal.vs (t : Tal) : List V := [.int t.b, .int t.l, .int t.c, .int t.o]
def TalAt (H : Hp) (v : V) (t : Tal) : Prop := ∃ a, v = .ref a ∧ H a = some (.tup t.vs)
def TAll (H : Hp) (vs : List V) (ts : List Tal) : Prop := vs.length = ts.length ∧ ∀ (i : Nat) v t, vs[i]? = some v → ts[i]? = some t → TalAt H v t
/-- a list of tallies -/
def TL (H : Hp) (p : Addr) (ts : List Tal) : Prop := ∃ vs, H p = some (.lst vs) ∧ TAll H vs ts
theorem TalAt.mono {H H' : Hp} {v : V} {t : Tal} (s : TupS H H') (h : TalAt H v t) : TalAt H' v t := by
  obtain ⟨a, e, h⟩ := h
  exact ⟨a, e, s _ _ h⟩
theorem TAll.mono {H H' : Hp} {vs : List V} {ts : List Tal} (s : TupS H H') (h : TAll H vs ts) : TAll H' vs ts := ⟨h.1, fun i v t h1 h2 => (h.2 i v t h1 h2).mono s⟩
theorem TL.mono {H H' : Hp} {p : Addr} {ts : List Tal} (s : Same H H') (h : TL H p ts) : TL H' p ts := by
  obtain ⟨vs, e, h⟩ := h
  exact ⟨vs, s _ _ e, h.mono (TupS.of s)⟩
theorem TAll.nil {H : Hp} : TAll H [] [] := ⟨rfl, fun i v t h _ => by simp at h⟩
theorem TAll.snoc {H : Hp} {vs : List V} {ts : List Tal} {v : V} {t : Tal} (h : TAll H vs ts) (hv : TalAt H v t) : TAll H (vs ++ [v]) (ts ++ [t]) := by
  refine ⟨by simp [h.1], fun i x y h1 h2 => ?_⟩
  by_cases hi : i < vs.length
  · rw [List.getElem?_append_left hi] at h1
    rw [List.getElem?_append_left (h.1 ▸ hi)] at h2
    exact h.2 i x y h1 h2
  · have e : i = vs.length := by
      have := (List.getElem?_eq_some_iff.mp h1).1
      simp at this
      omega
    subst e
    rw [List.getElem?_append_right (Nat.le_refl _)] at h1
    rw [h.1, List.getElem?_append_right (Nat.le_refl _)] at h2
    simp at h1 h2
    subst h1 h2
    exact hv
theorem TAll.get {H : Hp} {vs : List V} {ts : List Tal} (h : TAll H vs ts) {i : Nat} {v : V} (hi : vs[i]? = some v) : ∃ t, ts[i]? = some t ∧ TalAt H v t := by
  have hl := (List.getElem?_eq_some_iff.mp hi).1
  have hl2 : i < ts.length := h.1 ▸ hl
  exact ⟨ts[i], List.getElem?_eq_getElem hl2, h.2 i v _ hi (List.getElem?_eq_getElem hl2)⟩
/-! ### tallies as data -/
def Tal.data (t : Tal) : PyData := .tuple [.int t.b, .int t.l, .int t.c, .int t.o]
theorem TalAt.dp {H : Hp} {v : V} {t : Tal} (h : TalAt H v t) : Dp K H v t.data := by
  obtain ⟨a, rfl, h⟩ := h
  exact .tup (SqT.of h) (.cons (.int _) (.cons (.int _) (.cons (.int _) (.cons (.int _) .nil))))
def tdata (ts : List Tal) : PyData := .list (ts.map Tal.data)
theorem tdata_sh (ts : List Tal) : Sh 9 (tdata ts) := by
  refine Sh.list (k := 8) fun d h => ?_
  obtain ⟨t, _, rfl⟩ := List.mem_map.mp h
  refine Sh.tup (k := 7) fun d h => ?_
  simp only [List.mem_cons, List.not_mem_nil, or_false] at h
  rcases h with rfl | rfl | rfl | rfl <;> exact Sh.int
theorem TAll.dp {H : Hp} {vs : List V} {ts : List Tal} (h : TAll H vs ts) : DpAll K H vs (ts.map Tal.data) := by
  refine dpAll_of (by rw [List.length_map]; exact h.1) fun i v d h1 h2 => ?_
  rw [List.getElem?_map] at h2
  cases e : ts[i]? with
  | none => rw [e] at h2; simp at h2
  | some t =>
    rw [e] at h2
    simp at h2
    subst h2
    exact (h.2 i v t h1 e).dp
theorem TL.dp {H : Hp} {p : Addr} {ts : List Tal} (h : TL H p ts) : Dp K H (.ref p) (tdata ts) := by
  obtain ⟨vs, e, h⟩ := h
  exact .lst (SqL.of e) h.dp
theorem TL.eq {H : Hp} {p q : Addr} {ts : List Tal} {Q : VK} (h1 : TL H p ts) (h2 : TL H q ts) (k : Q (.bl true) H) : uEq K (.ref p) (.ref q) H Q := x_eqS2 h1.dp h2.dp (tdata_sh ts) k
theorem TL.ne {H : Hp} {p q : Addr} {ts : List Tal} {Q : VK} (h1 : TL H p ts) (h2 : TL H q ts) (k : Q (.bl false) H) : uNe K (.ref p) (.ref q) H Q := x_neS2 h1.dp h2.dp (tdata_sh ts) k
theorem TalAt.ne {H : Hp} {v : V} {t : Tal} (h : TalAt H v t) : ∃ a, v = .ref a ∧ SqT K H a t.vs := by
  obtain ⟨a, rfl, h⟩ := h
  exact ⟨a, rfl, SqT.of h⟩
theorem TAll.sub {H : Hp} {vs : List V} {ts : List Tal} (h : TAll H vs ts) (k : Nat) : TAll H (vs.drop k) (ts.drop k) := ⟨by rw [List.length_drop, List.length_drop, h.1], fun i v t h1 h2 => by
  rw [List.getElem?_drop] at h1 h2
  exact h.2 _ v t h1 h2⟩
theorem TAll.take {H : Hp} {vs : List V} {ts : List Tal} (h : TAll H vs ts) (k : Nat) : TAll H (vs.take k) (ts.take k) := ⟨by rw [List.length_take, List.length_take, h.1], fun i v t h1 h2 => by
  rw [List.getElem?_take] at h1 h2
  split at h1
  · rename_i hk
    rw [if_pos hk] at h2
    exact h.2 _ v t h1 h2
  · simp at h1⟩
/-! ### rules -/
def TOk (pages now : Int) (t : Tal) : Prop := 0 ≤ t.b ∧ t.b < 16 ∧ 0 ≤ t.l ∧ t.l ≤ pages ∧ 0 ≤ t.c ∧ t.c < 10 ^ 30 ∧ 0 ≤ t.o ∧ t.o < now
def PN (pages now : Int) : Prop := 1 ≤ pages ∧ pages ≤ 16 ∧ 1 ≤ now ∧ now < 10 ^ 30
/-- the same, of the object at r, as long as I is so -/
def spGAr (r : Addr) (I : Hp → Prop) (g : Int → Int → Tal → Tal → Bool) : Sp := fun vs H Q _ => ∃ (one other : V) (t u : Tal) (pages now : Int), vs = [.ref r, one, other, .int pages, .int now] ∧ I H ∧ TalAt H one t ∧ TalAt H other u ∧ TOk pages now t ∧ TOk pages now u ∧ PN pages now ∧
  ∀ H', Same H H' → Q (.bl (g pages now t u)) H'
/-- an object with such a rule: rf, what it leans on; n, its level -/
def RuleOb (P : Program) (w : World) (K : PySem.W.Frag) (mg : Str → Option Value) (base : Heap) (n : Nat) (g : Int → Int → Tal → Tal → Bool) (H : Hp) (rf : List Addr) (r : Addr) : Prop :=
  r ∈ rf ∧ (∀ a ∈ rf, ∃ o, H a = some o ∧ ∀ xs, o ≠ .tup xs) ∧ ∃ C dx fs I, H r = some (.ins C dx fs) ∧ fs.lookup (Str.ofString "goes_ahead") = none ∧ fs.lookup (Str.ofString "choose") = none ∧
    (∀ H1 H2 : Hp, (∀ a ∈ rf, ∀ o, H1 a = some o → H2 a = some o) → I H1 → I H2) ∧ I H ∧ MO P w K mg base (L2.CX P w) n C "goes_ahead" (spGAr r I g)
theorem RuleOb.keep {n : Nat} {g : Int → Int → Tal → Tal → Bool} {H H' : Hp} {rf : List Addr} {r : Addr} (k : ∀ a ∈ rf, ∀ o, H a = some o → H' a = some o) (h : RuleOb P w K mg base n g H rf r) : RuleOb P w K mg base n g H' rf r := by
  obtain ⟨m, t, C, dx, fs, I, e, l1, l2, st, i, mo⟩ := h
  exact ⟨m, fun a ha => let ⟨o, e, z⟩ := t a ha; ⟨o, k a ha o e, z⟩, C, dx, fs, I, k r m _ e, l1, l2, st, st H H' k i, mo⟩
theorem RuleOb.mono {n : Nat} {g : Int → Int → Tal → Tal → Bool} {H H' : Hp} {rf : List Addr} {r : Addr} (s : Same H H') (h : RuleOb P w K mg base n g H rf r) : RuleOb P w K mg base n g H' rf r := h.keep fun a _ o e => s a o e
/-! ### what a store holds -/
theorem getI_cons {e : Int × Int} {ps : List (Int × Int)} {n : Int} : getI (e :: ps) n = if e.1 = n then some e.2 else getI ps n := by
  unfold getI
  rw [List.find?_cons]
  by_cases h : e.1 = n
  · rw [decide_eq_true h, if_pos h]; rfl
  · rw [decide_eq_false h, if_neg h]
theorem getI_key {n : Int} : ∀ {ps : List (Int × Int)}, getI ps n = none ↔ n ∉ ps.map (·.1)
  | [] => by simp [getI]
  | e :: ps => by
    rw [getI_cons, List.map_cons, List.mem_cons]
    by_cases h : e.1 = n
    · rw [if_pos h]
      exact ⟨fun z => (by cases z), fun z => absurd (.inl h.symm) z⟩
    · rw [if_neg h, getI_key]
      exact ⟨fun z y => y.elim (fun y => h y.symm) z, fun z y => z (.inr y)⟩
theorem getI_of_mem {ps : List (Int × Int)} (hn : (ps.map (·.1)).Nodup) {n x : Int} (h : (n, x) ∈ ps) : getI ps n = some x := by
  induction ps with
  | nil => cases h
  | cons e ps ih =>
    rw [List.map_cons, List.nodup_cons] at hn
    rw [getI_cons]
    rcases List.mem_cons.mp h with rfl | h
    · rw [if_pos rfl]
    · rw [if_neg (fun z => hn.1 (by rw [z]; exact List.mem_map.mpr ⟨_, h, rfl⟩))]
      exact ih hn.2 h
theorem getI_put {n x m : Int} : ∀ {ps : List (Int × Int)}, getI (putI ps n x) m = if m = n then some x else getI ps m := by
  have hmap : ∀ ps : List (Int × Int), n ∈ ps.map (·.1) → getI (ps.map fun e => if e.1 = n then (e.1, x) else e) m = if m = n then some x else getI ps m := by
    intro ps
    induction ps with
    | nil => intro h; cases h
    | cons e ps ih =>
      intro h
      rw [List.map_cons, getI_cons, getI_cons]
      by_cases he : e.1 = n
      · rw [if_pos he]
        dsimp only
        by_cases hm : m = n
        · rw [if_pos (by rw [he, hm]), if_pos hm]
        · rw [if_neg (fun z => hm (by rw [← z, he])), if_neg hm, if_neg (fun z => hm (by rw [← z, he]))]
          by_cases h2 : n ∈ ps.map (·.1)
          · rw [ih h2, if_neg hm]
          · have : (ps.map fun e => if e.1 = n then (e.1, x) else e) = ps := by
              conv => rhs; rw [← List.map_id ps]
              refine List.map_congr_left fun y hy => ?_
              rw [if_neg (fun z => h2 (by rw [← z]; exact List.mem_map.mpr ⟨_, hy, rfl⟩))]
              rfl
            rw [this]
      · rw [if_neg he]
        have h2 : n ∈ ps.map (·.1) := by
          rcases List.mem_cons.mp h with h | h
          · exact absurd h.symm he
          · exact h
        by_cases hem : e.1 = m
        · rw [if_pos hem, if_neg (fun z => he (by rw [hem, z])), if_pos hem]
        · rw [if_neg hem, if_neg hem]
          exact ih h2
  intro ps
  unfold putI
  split
  · rename_i h
    refine hmap ps ?_
    obtain ⟨e, he, h⟩ := List.any_eq_true.mp h
    exact List.mem_map.mpr ⟨e, he, of_decide_eq_true h⟩
  · rename_i h
    have hk : n ∉ ps.map (·.1) := fun z => h (by
      obtain ⟨e, he, h⟩ := List.mem_map.mp z
      exact List.any_eq_true.mpr ⟨e, he, decide_eq_true h⟩)
    clear hmap h
    induction ps with
    | nil =>
      rw [List.nil_append, getI_cons]
      by_cases hm : m = n
      · rw [if_pos hm, if_pos hm.symm]
      · rw [if_neg hm, if_neg (fun z => hm z.symm)]
    | cons e ps ih =>
      rw [List.map_cons, List.mem_cons, not_or] at hk
      rw [List.cons_append, getI_cons, getI_cons, ih hk.2]
      by_cases hem : e.1 = m
      · rw [if_pos hem, if_pos hem, if_neg (fun z => hk.1 (by rw [← z, hem]))]
      · rw [if_neg hem, if_neg hem]
theorem getI_drop {n m : Int} {ps : List (Int × Int)} : getI (dropI ps n) m = if m = n then none else getI ps m := by
  unfold dropI
  induction ps with
  | nil =>
    rw [List.filter_nil]
    split <;> rfl
  | cons e ps ih =>
    by_cases he : e.1 = n
    · rw [List.filter_cons_of_neg (by simp [he]), ih, getI_cons]
      by_cases hm : m = n
      · rw [if_pos hm, if_pos hm]
      · rw [if_neg hm, if_neg hm, if_neg (fun z => hm (by rw [← z, he]))]
    · rw [List.filter_cons_of_pos (by simp [he]), getI_cons, getI_cons, ih]
      by_cases hem : e.1 = m
      · rw [if_pos hem, if_pos hem, if_neg (fun z => he (by rw [hem, z]))]
      · rw [if_neg hem, if_neg hem]
theorem put_keys {ps : List (Int × Int)} {n x : Int} : (putI ps n x).map (·.1) = if n ∈ ps.map (·.1) then ps.map (·.1) else ps.map (·.1) ++ [n] := by
  unfold putI
  by_cases h : n ∈ ps.map (·.1)
  · have h2 : (ps.any fun e => decide (e.1 = n)) = true := by
      obtain ⟨e, he, h⟩ := List.mem_map.mp h
      exact List.any_eq_true.mpr ⟨e, he, decide_eq_true h⟩
    rw [if_pos h2, if_pos h, List.map_map]
    refine List.map_congr_left fun e _ => ?_
    show (if e.1 = n then (e.1, x) else e).1 = e.1
    split <;> rfl
  · have h2 : ¬ (ps.any fun e => decide (e.1 = n)) = true := fun z => h (by
      obtain ⟨e, he, h⟩ := List.any_eq_true.mp z
      exact List.mem_map.mpr ⟨e, he, of_decide_eq_true h⟩)
    rw [if_neg h2, if_neg h, List.map_append]
    rfl
theorem put_nodup {ps : List (Int × Int)} {n x : Int} (h : (ps.map (·.1)).Nodup) : ((putI ps n x).map (·.1)).Nodup := by
  rw [put_keys]
  split
  · exact h
  · rename_i hn
    rw [List.nodup_append]
    exact ⟨h, by simp, fun a ha b hb => by rw [List.mem_singleton.mp hb]; exact fun z => hn (z ▸ ha)⟩
theorem put_key_mem {ps : List (Int × Int)} {n x m : Int} : m ∈ (putI ps n x).map (·.1) ↔ m = n ∨ m ∈ ps.map (·.1) := by
  rw [put_keys]
  split
  · rename_i h
    exact ⟨.inr, fun z => z.elim (fun z => z ▸ h) id⟩
  · rw [List.mem_append, List.mem_singleton]
    exact Or.comm
theorem drop_nodup {ps : List (Int × Int)} {n : Int} (h : (ps.map (·.1)).Nodup) : ((dropI ps n).map (·.1)).Nodup := List.Nodup.sublist (List.Sublist.map _ List.filter_sublist) h
theorem drop_wh {k : Bk} {n m : Int} : getI (k.drop n).wh m = if m = n then none else getI k.wh m := by
  unfold Bk.drop
  split
  · rename_i h
    by_cases hm : m = n
    · rw [if_pos hm, hm, h]
    · rw [if_neg hm]
  · exact getI_drop
theorem drop_whn {k : Bk} {n : Int} (h : (k.wh.map (·.1)).Nodup) : ((k.drop n).wh.map (·.1)).Nodup := by
  unfold Bk.drop
  split
  · exact h
  · exact drop_nodup h
theorem drop_whm {k : Bk} {n : Int} : ∀ e ∈ (k.drop n).wh, e ∈ k.wh := by
  unfold Bk.drop
  split
  · exact fun e he => he
  · exact fun e he => (List.mem_filter.mp he).1
theorem note_wh {k : Bk} {pg n m : Int} : getI (k.note pg n).wh m = if m = n then some pg else getI k.wh m := by
  show getI (putI (k.drop n).wh n pg) m = _
  rw [getI_put, drop_wh]
  by_cases hm : m = n
  · rw [if_pos hm, if_pos hm]
  · rw [if_neg hm, if_neg hm, if_neg hm]
theorem note_whn {k : Bk} {pg n : Int} (h : (k.wh.map (·.1)).Nodup) : ((k.note pg n).wh.map (·.1)).Nodup := put_nodup (drop_whn h)
theorem note_whm {k : Bk} {pg n : Int} {A : Int → Prop} (h : ∀ e ∈ k.wh, A e.1) (hn : A n) : ∀ e ∈ (k.note pg n).wh, A e.1 := fun e he => by
  have : e.1 ∈ (putI (k.drop n).wh n pg).map (·.1) := List.mem_map.mpr ⟨e, he, rfl⟩
  rcases put_key_mem.mp this with z | z
  · rw [z]; exact hn
  · obtain ⟨y, hy, hye⟩ := List.mem_map.mp z
    rw [← hye]
    exact h y (drop_whm y hy)
/-- unlike numbers below a bound -/
theorem nodup_le : ∀ {N : Nat} {l : List Int}, l.Nodup → (∀ x ∈ l, 0 ≤ x ∧ x < (N : Int)) → l.length ≤ N
  | 0, l, _, h => by
    cases l with
    | nil => exact Nat.le_refl _
    | cons x l =>
      have := h x List.mem_cons_self
      omega
  | N + 1, l, hn, h => by
    have h1 := nodup_le (N := N) (l := l.erase (N : Int)) (hn.erase _) fun x hx => by
      have hx2 := (hn.mem_erase_iff).mp hx
      have := h x hx2.2
      have := hx2.1
      omega
    have h2 : l.length ≤ (l.erase (N : Int)).length + 1 := by
      rw [List.length_erase]
      split <;> omega
    omega
theorem getD_set {α : Type} {l : List α} {n m : Nat} {x d : α} (h : n < l.length) : (l.set n x).getD m d = if m = n then x else l.getD m d := by
  by_cases e : m = n
  · subst e
    rw [if_pos rfl, List.getD_eq_getElem?_getD, List.getElem?_set_self h]
    rfl
  · rw [if_neg e, List.getD_eq_getElem?_getD, List.getElem?_set_ne (Ne.symm e), ← List.getD_eq_getElem?_getD]
theorem drop_fil {k : Bk} {n : Int} : (k.drop n).fil = k.fil := by unfold Bk.drop; split <;> rfl
theorem note_fil {k : Bk} {pg n : Int} : (k.note pg n).fil = k.fil.set (pg / k.p).toNat (k.fil.getD (pg / k.p).toNat 0 + 1) := by
  show (k.drop n).fil.set _ ((k.drop n).fil.getD _ 0 + 1) = _
  rw [drop_fil]
theorem note_st {k : Bk} {pg n : Int} : (k.note pg n).stamp = k.stamp + 1 := by
  show (k.drop n).stamp + 1 = _
  rw [drop_st]
theorem note_whl {k : Bk} {pg n : Int} : (k.note pg n).wh.length ≤ k.wh.length + 1 := Nat.le_trans putI_len (Nat.succ_le_succ drop_whl)
theorem note_bp {k : Bk} {pg n : Int} : (k.note pg n).b = k.b ∧ (k.note pg n).p = k.p := ⟨drop_b, drop_p⟩
theorem getD_set' {α : Type} {l : List α} {n m : Nat} {x d : α} : (l.set n x).getD m d = if m = n ∧ n < l.length then x else l.getD m d := by
  by_cases h : n < l.length
  · rw [getD_set h]
    by_cases e : m = n
    · rw [if_pos e, if_pos ⟨e, h⟩]
    · rw [if_neg e, if_neg (fun z => e z.1)]
  · rw [if_neg (fun z => h z.2), List.set_eq_of_length_le (by omega)]
theorem note_nm {k : Bk} {pg n : Int} : (k.note pg n).nm = (k.drop n).nm.set pg.toNat (.int n) := rfl
theorem drop_nm {k : Bk} {n : Int} : (k.drop n).nm = match getI k.wh n with
    | none => k.nm
    | some x => k.nm.set x.toNat .non := by
  unfold Bk.drop
  cases getI k.wh n <;> rfl
/-! ### terms and addresses of a store -/
def Bk.drops (k : Bk) (l : List Int) : Bk := l.foldl (fun k n => k.drop n) k
theorem heldL_mem {k : Bk} {n : Int} : n ∈ heldL k ↔ (∃ pg, (n, pg) ∈ k.wh) ∧ n ≠ 64 := by
  unfold heldL
  rw [(sortZ_perm _).mem_iff, List.mem_filter, List.mem_map]
  constructor
  · rintro ⟨⟨e, he, rfl⟩, h⟩
    exact ⟨⟨e.2, he⟩, of_decide_eq_true h⟩
  · rintro ⟨⟨pg, he⟩, h⟩
    exact ⟨⟨_, he, rfl⟩, decide_eq_true h⟩
theorem heldL_len {k : Bk} : (heldL k).length ≤ k.wh.length := by
  unfold heldL
  rw [(sortZ_perm _).length_eq]
  exact Nat.le_trans (List.length_filter_le _ _) (by rw [List.length_map]; exact Nat.le_refl _)
/-! ### a store with no heap: a chip, a book, papers, a rule -/
structure Pc where
  b : Int
  p : Int
  m : Int
  lasts : List V
  ct : List (Option (Int × Int))
  tried : List Int
  clr : List Int
  broken : List Bool
  left : Option Int
  log : List (Str × Int × Bool)
def Pc.toC (q : Pc) (st : List V) : Cs := ⟨q.b, q.p, q.m, q.lasts, st, q.tried, q.clr, q.broken, q.left, q.log⟩
/-- what a chip's list of pages bears -/
def StfAt (H : Hp) (st : List V) (ct : List (Option (Int × Int))) : Prop := st.length = ct.length ∧ ∀ i : Nat, i < st.length → (ct.getD i none = none ∧ st.getD i .non = .non) ∨ ∃ (a : Addr) (m x : Int), ct.getD i none = some (m, x) ∧ st.getD i .non = .ref a ∧ H a = some (.tup [.int m, .int x])
theorem StfAt.mono {H H' : Hp} {st : List V} {ct : List (Option (Int × Int))} (s : TupS H H') (h : StfAt H st ct) : StfAt H' st ct := ⟨h.1, fun i hi => (h.2 i hi).imp id fun ⟨a, m, x, h1, h2, h3⟩ => ⟨a, m, x, h1, h2, s _ _ h3⟩⟩
def ChipP (C : Addr) (H : Hp) (r : Addr) (F : CF) (q : Pc) : Prop := ∃ st, ChipAt C H r F (q.toC st) ∧ StfAt H st q.ct
theorem ChipP.mono {C : Addr} {H H' : Hp} {r : Addr} {F : CF} {q : Pc} (s : Same H H') (h : ChipP C H r F q) : ChipP C H' r F q := by
  obtain ⟨st, h1, h2⟩ := h
  exact ⟨st, h1.mono s, h2.mono (TupS.of s)⟩
theorem ChipP.off {C : Addr} {H H' : Hp} {r : Addr} {F : CF} {q : Pc} {S : List Addr} (h : ChipP C H r F q) (s : Off S H H') (n : ∀ a, a ∈ F.all r → a ∉ S) (ht : TupS H H') : ChipP C H' r F q := by
  obtain ⟨st, h1, h2⟩ := h
  exact ⟨st, h1.off s n ht, h2.mono ht⟩
theorem ChipP.there {C : Addr} {H : Hp} {r : Addr} {F : CF} {q : Pc} (h : ChipP C H r F q) : ∀ a ∈ F.all r, ∃ o, H a = some o ∧ ∀ xs, o ≠ .tup xs := by
  obtain ⟨st, h1, _⟩ := h
  exact h1.there
def Pc.dark (q : Pc) : Bool := decide (q.left = some 0)
def Pc.well (q : Pc) (n : Nat) (worn : Bool) : Bool := !worn && !decide (V.int (q.tried.getD n 0) = q.lasts.getD n .non)
def Pc.tick (q : Pc) (n : Nat) (well : Bool) : Pc := { q with left := q.left.map (· - 1), tried := q.tried.set n (q.tried.getD n 0 + 1), broken := q.broken.set n (!well) }
def Pc.said (q : Pc) (n : Nat) (w : Bool) (e : Str × Int) : Pc := { q.tick n w with log := q.log ++ [(e.1, e.2, w)] }
/-- refusals -/
inductive Rf
  | dark
  | failed (b : Int)
  | noroom
  | wornout
  | full
  | nosheet
  | novalue
  | stuck
/-- a put on a clear page of a good block -/
def Pc.putP (q : Pc) (pg : Int) (e : Int × Int) : Option Rf × Pc :=
  if q.dark = true then (some .dark, q) else if q.well (pg / q.p).toNat false = true then (none, { q.said (pg / q.p).toNat true ("put", pg) with ct := q.ct.set pg.toNat (some e) }) else (some (.failed (pg / q.p)), q.said (pg / q.p).toNat false ("put", pg))
def goodQ (q : Pc) : List Nat := (List.range q.b.toNat).filter fun n => !q.broken.getD n false
def partQ (q : Pc) (k : Bk) : Option Nat := (goodQ q).find? fun n => decide (0 < k.fil.getD n 0) && decide (k.fil.getD n 0 < q.p)
def freeQ (q : Pc) (k : Bk) : List (Int × Int) := ((goodQ q).filter fun n => decide (k.fil.getD n 0 = 0)).map fun n : Nat => (q.clr.getD n 0, (n : Int))
def nextQ (q : Pc) (k : Bk) : Option Nat := match partQ q k with
  | some n => some n
  | none => (sortP (freeQ q k)).head?.map fun e => e.2.toNat
/-- the rules: by a way to go ahead, a window, a list that is followed -/
inductive Rl
  | by (g : Int → Int → Tal → Tal → Bool)
  | window (n : Int)
  | follow (l : List Int) (i : Nat)
structure Mv where
  nm : Int
  pg : Int
  to : Int
structure Pap where
  why : Str
  some : List Tal
  blk : Int
  mv : List Mv
  well : Bool
structure St where
  q : Pc
  k : Bk
  pp : List Pap
  ru : Rl
/-! ### what a chip and a book are like together -/
structure Wf (q : Pc) (k : Bk) : Prop where
  kb : k.b = q.b
  kp : k.p = q.p
  ctl : (q.ct.length : Int) = q.b * q.p
  bk : BkOk k
  fil : ∀ n : Nat, 0 ≤ k.fil.getD n 0 ∧ k.fil.getD n 0 ≤ k.p
  clear : ∀ n j : Nat, n < q.b.toNat → j < q.p.toNat → k.fil.getD n 0 ≤ (j : Int) → q.ct.getD (n * q.p.toNat + j) none = none
  keys : (k.wh.map (·.1)).Nodup
  rng : ∀ e ∈ k.wh, 0 ≤ e.1 ∧ e.1 ≤ 64
  own : ∀ nm pg, getI k.wh nm = some pg → (∃ e, q.ct.getD pg.toNat none = some e) ∧ k.nm.getD pg.toNat .non = .int nm
  nms : ∀ pg : Nat, k.nm.getD pg .non = .non ∨ ∃ nm : Int, k.nm.getD pg .non = .int nm ∧ getI k.wh nm = some (pg : Int)
  lv : ∀ n : Nat, n < q.b.toNat → k.live.getD n 0 = ((k.wh.filter fun e => decide (e.2 / k.p = (n : Int))).length : Int)
  bn : ∀ n : Nat, 0 ≤ k.born.getD n 0 ∧ k.born.getD n 0 < k.stamp
  cb : ∀ n : Nat, 0 ≤ q.clr.getD n 0 ∧ q.clr.getD n 0 ≤ (q.log.length : Int)
theorem Wf.chip {q q' : Pc} {k : Bk} (h : Wf q k) (e1 : q'.b = q.b) (e2 : q'.p = q.p) (e3 : q'.ct = q.ct) (e4 : q'.clr = q.clr) (e5 : q.log.length ≤ q'.log.length) : Wf q' k :=
  ⟨h.kb.trans e1.symm, h.kp.trans e2.symm, by rw [e1, e2, e3]; exact h.ctl, h.bk, h.fil, by rw [e1, e2, e3]; exact h.clear, h.keys, h.rng, by rw [e3]; exact h.own, h.nms, by rw [e1]; exact h.lv, h.bn, fun n => by rw [e4]; have := h.cb n; omega⟩
theorem Wf.said {q : Pc} {k : Bk} (h : Wf q k) (n : Nat) (w : Bool) (e : Str × Int) : Wf (q.said n w e) k := h.chip rfl rfl rfl rfl (by show _ ≤ (q.log ++ [_]).length; rw [List.length_append]; omega)
/-- a name's row taken out: how many are left in a block -/
theorem drop_cnt {f : Int × Int → Bool} {n x : Int} : ∀ {ps : List (Int × Int)}, (ps.map (·.1)).Nodup → getI ps n = some x → (((dropI ps n).filter f).length : Int) = ((ps.filter f).length : Int) - (if f (n, x) = true then 1 else 0)
  | [], _, h => by cases h
  | e :: ps, hn, h => by
    rw [List.map_cons, List.nodup_cons] at hn
    rw [getI_cons] at h
    by_cases he : e.1 = n
    · rw [if_pos he] at h
      injection h with h
      have e0 : e = (n, x) := by rw [← he, ← h]
      have e1 : dropI (e :: ps) n = ps := by
        unfold dropI
        rw [List.filter_cons_of_neg (by simp [he])]
        refine List.filter_eq_self.mpr fun y hy => decide_eq_true fun z => hn.1 (by rw [he, ← z]; exact List.mem_map.mpr ⟨_, hy, rfl⟩)
      rw [e1, List.filter_cons, e0]
      split
      · rw [List.length_cons]; omega
      · omega
    · rw [if_neg he] at h
      have e1 : dropI (e :: ps) n = e :: dropI ps n := by
        unfold dropI
        rw [List.filter_cons_of_pos (by simp [he])]
      have ih := drop_cnt (f := f) hn.2 h
      rw [e1, List.filter_cons, List.filter_cons]
      split
      · rw [List.length_cons, List.length_cons]; omega
      · exact ih
theorem drop_bn {k : Bk} {n : Int} : (k.drop n).born = k.born := by unfold Bk.drop; split <;> rfl
theorem drop_lv {k : Bk} {n : Int} : (k.drop n).live = match getI k.wh n with
    | none => k.live
    | some x => k.live.set (x / k.p).toNat (k.live.getD (x / k.p).toNat 0 - 1) := by
  unfold Bk.drop
  cases getI k.wh n <;> rfl
theorem drop_whE {k : Bk} {n : Int} : (k.drop n).wh = match getI k.wh n with
    | none => k.wh
    | some _ => dropI k.wh n := by
  unfold Bk.drop
  cases getI k.wh n <;> rfl
theorem note_whE {k : Bk} {pg n : Int} : (k.note pg n).wh = (k.drop n).wh ++ [(n, pg)] := by
  show putI (k.drop n).wh n pg = _
  unfold putI
  rw [if_neg]
  intro z
  obtain ⟨e, he, z⟩ := List.any_eq_true.mp z
  have h1 : getI (k.drop n).wh n = none := by rw [drop_wh, if_pos rfl]
  exact getI_key.mp h1 (List.mem_map.mpr ⟨e, he, of_decide_eq_true z⟩)
theorem Wf.whl {q : Pc} {k : Bk} (h : Wf q k) : k.wh.length ≤ 65 := by
  have := nodup_le (N := 65) h.keys fun x hx => by
    obtain ⟨e, he, rfl⟩ := List.mem_map.mp hx
    have := h.rng e he
    omega
  rw [List.length_map] at this
  exact this
theorem Wf.drop {q : Pc} {k : Bk} (h : Wf q k) (n : Int) : Wf q (k.drop n) := by
  refine ⟨drop_b.trans h.kb, drop_p.trans h.kp, h.ctl, h.bk.drop n, by rw [drop_fil, drop_p]; exact h.fil, by rw [drop_fil]; exact h.clear, drop_whn h.keys, fun e he => h.rng e (drop_whm e he), fun nm pg hg => ?_, fun pg => ?_, fun m hm => ?_, fun m => by rw [drop_bn, drop_st]; exact h.bn m, h.cb⟩
  rotate_left 2
  · rw [drop_lv, drop_whE, drop_p]
    cases hx : getI k.wh n with
    | none => exact h.lv m hm
    | some x =>
      dsimp only
      have hw := h.bk.wh _ (getI_mem hx)
      dsimp only at hw
      have hp := h.bk.p
      have hb0 : 0 ≤ x / k.p := Int.ediv_nonneg hw.1 (by omega)
      have hb1 : x / k.p < k.b := Int.ediv_lt_of_lt_mul (by omega) hw.2
      have hl := h.bk.live
      rw [getD_set (by omega), drop_cnt h.keys hx, ← h.lv m hm]
      by_cases em : m = (x / k.p).toNat
      · rw [if_pos em, if_pos (decide_eq_true (show x / k.p = (m : Int) by omega)), em]
      · rw [if_neg em, if_neg (fun z => em (by have := of_decide_eq_true z; dsimp only at this; omega))]
        omega
  · rw [drop_wh] at hg
    split at hg
    · cases hg
    · rename_i hne
      obtain ⟨h1, h2⟩ := h.own nm pg hg
      refine ⟨h1, ?_⟩
      rw [drop_nm]
      split
      · exact h2
      · rename_i x hx
        rw [getD_set', if_neg]
        · exact h2
        · rintro ⟨e, _⟩
          have := (h.own n x hx).2
          rw [← e, h2] at this
          injection this with this
          exact hne this
  · rw [drop_nm]
    split
    · rename_i hx
      rcases h.nms pg with z | ⟨nm, z1, z2⟩
      · exact .inl z
      · refine .inr ⟨nm, z1, ?_⟩
        rw [drop_wh, if_neg (fun e => by rw [e, hx] at z2; cases z2)]
        exact z2
    · rename_i x hx
      rw [getD_set']
      split
      · exact .inl rfl
      · rename_i hne
        rcases h.nms pg with z | ⟨nm, z1, z2⟩
        · exact .inl z
        · refine .inr ⟨nm, z1, ?_⟩
          rw [drop_wh, if_neg (fun e => ?_)]
          · exact z2
          · rw [e, hx] at z2
            injection z2 with z2
            have hl := (h.bk.wh _ (getI_mem hx)).2
            have h0 := (h.bk.wh _ (getI_mem hx)).1
            have hn := h.bk.nm
            dsimp only at hl h0
            exact hne ⟨by omega, by omega⟩
theorem Wf.drops {q : Pc} : ∀ {l : List Int} {k : Bk}, Wf q k → Wf q (k.drops l)
  | [], _, h => h
  | n :: l, k, h => Wf.drops (l := l) (k := k.drop n) (h.drop n)
/-- where a page lies -/
theorem page_at {n : Nat} {p x : Int} (hp : 1 ≤ p) (h0 : 0 ≤ x) (h1 : x < p) : (((n : Int) * p + x) / p = (n : Int)) ∧ ((n : Int) * p + x).toNat = n * p.toNat + x.toNat := by
  constructor
  · rw [Int.add_comm, Int.add_mul_ediv_right _ _ (by omega), Int.ediv_eq_zero_of_lt h0 h1, Int.zero_add]
  · obtain ⟨m, rfl⟩ := Int.eq_ofNat_of_zero_le (show 0 ≤ p by omega)
    obtain ⟨y, rfl⟩ := Int.eq_ofNat_of_zero_le h0
    simp only [Int.toNat_natCast]
    rw [← Int.natCast_mul, ← Int.natCast_add, Int.toNat_natCast]
theorem place_inj {p n m i j : Nat} (hi : i < p) (hj : j < p) (e : n * p + i = m * p + j) : n = m ∧ i = j := by
  have h1 : n = m := by
    have a : (n * p + i) / p = n := by rw [Nat.add_comm, Nat.add_mul_div_right _ _ (by omega), Nat.div_eq_of_lt hi, Nat.zero_add]
    have b : (m * p + j) / p = m := by rw [Nat.add_comm, Nat.add_mul_div_right _ _ (by omega), Nat.div_eq_of_lt hj, Nat.zero_add]
    rw [← a, ← b, e]
  subst h1
  exact ⟨rfl, by omega⟩
theorem partQ_mem {q : Pc} {k : Bk} {n : Nat} (h : partQ q k = some n) : n < q.b.toNat ∧ 0 < k.fil.getD n 0 ∧ k.fil.getD n 0 < q.p ∧ q.broken.getD n false = false := by
  unfold partQ at h
  have h1 := List.find?_some h
  have h2 := List.mem_filter.mp (List.mem_of_find?_eq_some h)
  rw [Bool.and_eq_true] at h1
  exact ⟨List.mem_range.mp h2.1, of_decide_eq_true h1.1, of_decide_eq_true h1.2, by simpa using h2.2⟩
/-- the page that is put next: its block and place -/
structure Spot (q : Pc) (k : Bk) (pg : Int) (n : Nat) : Prop where
  next : nextQ q k = some n
  eq : pg = (n : Int) * q.p + k.fil.getD n 0
  lt : n < q.b.toNat
  f0 : 0 ≤ k.fil.getD n 0
  f1 : k.fil.getD n 0 < q.p
  good : q.broken.getD n false = false
  blk : pg / q.p = (n : Int)
  nat : pg.toNat = n * q.p.toNat + (k.fil.getD n 0).toNat
  lo : 0 ≤ pg
  hi : pg < q.b * q.p
theorem Wf.blank {q : Pc} {k : Bk} {pg : Int} {n : Nat} (h : Wf q k) (s : Spot q k pg n) : q.ct.getD pg.toNat none = none := by
  rw [s.nat]
  have := s.f0
  have := s.f1
  exact h.clear n _ s.lt (by omega) (by omega)
theorem Wf.put {q q' : Pc} {k : Bk} {pg nm : Int} {n : Nat} {e : Int × Int} (h : Wf q k) (s : Spot q k pg n) (hn : 0 ≤ nm ∧ nm ≤ 64) (hs : k.stamp + 1 < 10 ^ 40) (e1 : q'.b = q.b) (e2 : q'.p = q.p) (e3 : q'.ct = q.ct.set pg.toNat (some e)) (e4 : q'.clr = q.clr) (e5 : q.log.length ≤ q'.log.length) : Wf q' (k.note pg nm) := by
  have hkb := h.kb
  have hkp := h.kp
  have hpp := h.bk.p
  have hbb := h.bk.b
  have ekp : k.p.toNat = q.p.toNat := by rw [hkp]
  have hlt := s.lt
  have hfl : n < k.fil.length := by have := h.bk.fil; omega
  have hbk : (pg / k.p).toNat = n := by rw [hkp, s.blk, Int.toNat_natCast]
  have hctl : pg.toNat < q.ct.length := by have := h.ctl; have := s.lo; have := s.hi; omega
  have hnml : pg.toNat < (k.drop nm).nm.length := by have := (h.bk.drop nm).nm; rw [drop_b, drop_p, hkb, hkp] at this; have := s.lo; have := s.hi; omega
  have hblank := h.blank s
  refine ⟨by rw [note_bp.1, e1]; exact hkb, by rw [note_bp.2, e2]; exact hkp, by rw [e1, e2, e3, List.length_set]; exact h.ctl, h.bk.note s.lo (by rw [hkb, hkp]; exact s.hi) (by have := h.whl; omega) hs, fun m => ?_, fun m j hm hj hf => ?_, note_whn h.keys, note_whm (A := fun i => 0 ≤ i ∧ i ≤ 64) h.rng hn, fun i pg2 hg => ?_, fun pg2 => ?_, fun m hm => ?_, fun m => ?_, fun m => by rw [e4]; have := h.cb m; omega⟩
  rotate_left 4
  · have hd := h.drop nm
    rw [e1] at hm
    have h1 := hd.lv m hm
    rw [drop_p] at h1
    rw [note_whE, note_bp.2, List.filter_append, List.length_append]
    show ((k.drop nm).live.set (pg / k.p).toNat ((k.drop nm).live.getD (pg / k.p).toNat 0 + 1)).getD m 0 = _
    have hl := hd.bk.live
    rw [drop_b] at hl
    rw [hbk, getD_set (by omega)]
    have hpg : pg / k.p = (n : Int) := by rw [hkp]; exact s.blk
    by_cases em : m = n
    · subst em
      rw [if_pos rfl, List.filter_cons_of_pos (by rw [hpg]; simp), h1]
      simp
    · rw [if_neg em, List.filter_cons_of_neg (by rw [hpg]; simp; omega), h1]
      simp
  · have h1 := h.bn m
    have h2 := h.bk.st
    have e : (k.note pg nm).born.getD m 0 = k.born.getD m 0 ∨ (k.note pg nm).born.getD m 0 = k.stamp := by
      show (if (k.drop nm).fil.getD (pg / k.p).toNat 0 = 0 then (k.drop nm).born.set (pg / k.p).toNat (k.drop nm).stamp else (k.drop nm).born).getD m 0 = _ ∨ (if (k.drop nm).fil.getD (pg / k.p).toNat 0 = 0 then (k.drop nm).born.set (pg / k.p).toNat (k.drop nm).stamp else (k.drop nm).born).getD m 0 = _
      rw [drop_bn, drop_st]
      split
      · rw [getD_set']
        split
        · exact .inr rfl
        · exact .inl rfl
      · exact .inl rfl
    rw [note_st]
    omega
  · rw [note_fil, hbk, getD_set hfl, note_bp.2]
    have := s.f0
    have := s.f1
    split
    · omega
    · exact h.fil m
  · rw [e1] at hm
    rw [e2] at hj
    rw [e3, e2, getD_set']
    rw [note_fil, hbk, getD_set hfl] at hf
    by_cases em : m = n
    · subst em
      rw [if_pos rfl] at hf
      have := s.f0
      rw [if_neg (fun z => by have := z.1; rw [s.nat] at this; omega)]
      exact h.clear m j hm hj (by omega)
    · rw [if_neg em] at hf
      rw [if_neg (fun z => by
        have z := z.1
        rw [s.nat] at z
        have := s.f1
        have := s.f0
        exact em (place_inj hj (by omega) z).1)]
      exact h.clear m j hm hj hf
  · rw [note_wh] at hg
    by_cases ei : i = nm
    · rw [if_pos ei] at hg
      injection hg with hg
      subst hg ei
      exact ⟨⟨e, by rw [e3, getD_set hctl, if_pos rfl]⟩, by rw [note_nm, getD_set hnml, if_pos rfl]⟩
    · rw [if_neg ei] at hg
      have hd : getI (k.drop nm).wh i = some pg2 := by rw [drop_wh, if_neg ei]; exact hg
      obtain ⟨⟨x, hx⟩, hy⟩ := (h.drop nm).own i pg2 hd
      have hne : pg2.toNat ≠ pg.toNat := fun z => by rw [z, hblank] at hx; cases hx
      exact ⟨⟨x, by rw [e3, getD_set hctl, if_neg hne]; exact hx⟩, by rw [note_nm, getD_set hnml, if_neg hne]; exact hy⟩
  · rw [note_nm, getD_set hnml]
    split
    · rename_i ep
      refine .inr ⟨nm, rfl, ?_⟩
      rw [note_wh, if_pos rfl, ep]
      have := s.lo
      congr 1
      omega
    · rename_i ep
      rcases (h.drop nm).nms pg2 with z | ⟨i, z1, z2⟩
      · exact .inl z
      · refine .inr ⟨i, z1, ?_⟩
        rw [drop_wh] at z2
        rw [note_wh]
        split at z2
        · cases z2
        · rename_i hne
          rw [if_neg hne]
          exact z2
theorem Wf.new {b p m : Int} {l : List V} (hb : 2 ≤ b ∧ b ≤ 16) (hp : 1 ≤ p ∧ p ≤ 16) {q : Pc} (e1 : q.b = b) (e2 : q.p = p) (e3 : q.ct = List.replicate (b * p).toNat none) (e4 : ∀ n : Nat, 0 ≤ q.clr.getD n 0 ∧ q.clr.getD n 0 ≤ (q.log.length : Int)) : Wf q (Bk.new b p) := by
  have rep : ∀ {α : Type} (x : α) (a n : Nat), (List.replicate a x).getD n x = x := fun x a n => by
    rw [List.getD_eq_getElem?_getD, List.getElem?_replicate]
    split <;> rfl
  have hbp : 0 ≤ b * p := Int.mul_nonneg (by omega) (by omega)
  refine ⟨e1.symm, e2.symm, by rw [e1, e2, e3, List.length_replicate]; omega, Bk.new_ok hb hp, fun n => ?_, fun n j _ _ _ => by rw [e3]; exact rep _ _ _, .nil, fun e he => (by cases he), fun nm pg hg => (by cases hg), fun pg => .inl (rep _ _ _), fun n _ => rep _ _ _, fun n => ?_, e4⟩
  rotate_left
  · show 0 ≤ (List.replicate b.toNat (0 : Int)).getD n 0 ∧ (List.replicate b.toNat (0 : Int)).getD n 0 < 1
    rw [rep]
    omega
  show 0 ≤ (List.replicate b.toNat (0 : Int)).getD n 0 ∧ (List.replicate b.toNat (0 : Int)).getD n 0 ≤ p
  rw [rep]
  omega
/-! ### for a law with no store -/
theorem ChipP.sz {C : Addr} {H : Hp} {r : Addr} {F : CF} {q : Pc} (h : ChipP C H r F q) : (2 ≤ q.b ∧ q.b ≤ 16) ∧ (1 ≤ q.p ∧ q.p ≤ 16) ∧ (q.broken.length : Int) = q.b ∧ (q.clr.length : Int) = q.b := by
  obtain ⟨st, hC, _⟩ := h
  exact ⟨hC.sz.b, hC.sz.p, hC.sz.broken, hC.sz.clr⟩
def FinR (T : Txt K mg) (e : Rf) (E : XK) (H' : Hp) : Prop := match e with
  | .dark => E (.ref T.C_PowerGone) none H'
  | .failed b => ∀ d, H' d = some (.xd [("block", .int b)]) → E (.ref T.C_BlockFailed) (some d) H'
  | .noroom => E (.ref T.a_law) none H'
  | .wornout => E (.ref T.a_law) none H'
  | .full => E (.ref T.a_law) none H'
  | .nosheet => E (.ref T.a_law) none H'
  | .novalue => E (.ref T.a_law) none H'
  | .stuck => False
theorem putP_log {q : Pc} {pg : Int} {e : Int × Int} : q.log.length ≤ (q.putP pg e).2.log.length := by
  unfold Pc.putP
  split
  · exact Nat.le_refl _
  · split
    · show _ ≤ (q.log ++ [_]).length
      rw [List.length_append]
      exact Nat.le_add_right _ _
    · show _ ≤ (q.log ++ [_]).length
      rw [List.length_append]
      exact Nat.le_add_right _ _
theorem putP_bp {q : Pc} {pg : Int} {e : Int × Int} : (q.putP pg e).2.b = q.b ∧ (q.putP pg e).2.p = q.p := by
  unfold Pc.putP
  split
  · exact ⟨rfl, rfl⟩
  · split <;> exact ⟨rfl, rfl⟩
theorem putP_clr {q : Pc} {pg : Int} {e : Int × Int} : (q.putP pg e).2.clr = q.clr := by
  unfold Pc.putP
  split
  · rfl
  · split <;> rfl
theorem put_toC {q : Pc} {st : List V} {H : Hp} {pg : Int} {v : V} (hst : StfAt H st q.ct) (h0 : 0 ≤ pg) (h1 : pg < q.b * q.p) (hb : q.broken.getD (pg / q.p).toNat false = false) (hc : q.ct.getD pg.toNat none = none) (hl : (q.ct.length : Int) = q.b * q.p) (e : Int × Int) :
    (q.toC st).putR (some pg) v = (match (q.putP pg e).1 with
      | none => Res.ok
      | some (.failed b) => .failed b
      | _ => .dark, (q.putP pg e).2.toC (match (q.putP pg e).1 with
      | none => st.set pg.toNat v
      | _ => st)) := by
  have hin : inB (some pg) 0 ((q.toC st).b * (q.toC st).p - 1) = true := decide_eq_true ⟨h0, by show pg ≤ q.b * q.p - 1; omega⟩
  have hs : (q.toC st).stuff.getD pg.toNat .non = .non := by
    rcases hst.2 pg.toNat (by rw [hst.1]; omega) with z | ⟨a, m, x, z, _⟩
    · exact z.2
    · rw [hc] at z; cases z
  unfold Cs.putR
  rw [if_neg (by rw [hin]; decide)]
  simp only [Option.getD_some]
  unfold Pc.putP
  cases hd : q.dark with
  | true =>
    rw [if_pos (show (q.toC st).dark = true from hd), if_pos rfl]
  | false =>
    simp only [Bool.false_eq_true, if_false]
    rw [if_neg (show ¬ (q.toC st).dark = true from by rw [show (q.toC st).dark = q.dark from rfl, hd]; decide)]
    rw [if_neg (show ¬ (q.toC st).broken.getD (pg / (q.toC st).p).toNat false = true from by rw [show (q.toC st).broken.getD (pg / (q.toC st).p).toNat false = q.broken.getD (pg / q.p).toNat false from rfl, hb]; decide), if_neg (fun z => z hs)]
    cases hw : q.well (pg / q.p).toNat false with
    | true =>
      rw [if_pos (show (q.toC st).well (pg / (q.toC st).p).toNat false = true from hw)]
      rfl
    | false =>
      rw [if_neg (show ¬ (q.toC st).well (pg / (q.toC st).p).toNat false = true from by rw [show (q.toC st).well (pg / (q.toC st).p).toNat false = q.well (pg / q.p).toNat false from rfl, hw]; decide)]
      rfl
theorem StfAt.set {H : Hp} {st : List V} {ct : List (Option (Int × Int))} {i : Nat} {a : Addr} {e : Int × Int} (h : StfAt H st ct) (ha : H a = some (.tup [.int e.1, .int e.2])) : StfAt H (st.set i (.ref a)) (ct.set i (some e)) := by
  refine ⟨by rw [List.length_set, List.length_set, h.1], fun j hj => ?_⟩
  rw [List.length_set] at hj
  rw [getD_set', getD_set']
  by_cases e1 : j = i ∧ i < st.length
  · rw [if_pos e1, if_pos ⟨e1.1, by rw [← h.1]; exact e1.2⟩]
    exact .inr ⟨a, e.1, e.2, rfl, rfl, ha⟩
  · rw [if_neg e1, if_neg (fun z => e1 ⟨z.1, by rw [h.1]; exact z.2⟩)]
    exact h.2 j hj
def spPutQ (T : Txt K mg) : Sp := fun vs H Q E => ∃ (r : Addr) (F : CF) (q : Pc) (pg : Int) (a : Addr) (e : Int × Int), vs = [.ref r, .int pg, .ref a] ∧ ChipP T.C_Chip H r F q ∧ H a = some (.tup [.int e.1, .int e.2]) ∧ q.log.length < 900000 ∧ 0 ≤ pg ∧ pg < q.b * q.p ∧ q.broken.getD (pg / q.p).toNat false = false ∧ q.ct.getD pg.toNat none = none ∧ (q.ct.length : Int) = q.b * q.p ∧
  ∀ H', Off (F.all r) H H' → ChipP T.C_Chip H' r F (q.putP pg e).2 → (match (q.putP pg e).1 with
    | none => Q .non H'
    | some x => FinR T x E H')
theorem putQ_put {T : Txt K mg} {vs : List V} {H : Hp} {Q : VK} {E : XK} (h : spPutQ T vs H Q E) : spPut T vs H Q E := by
  obtain ⟨r, F, q, pg, a, e, rfl, ⟨st, hC, hst⟩, ha, hll, h0, h1, hb, hc, hl, k⟩ := h
  refine ⟨r, F, q.toC st, _, _, some pg, rfl, hC, .int pg, hll, fun H' hO hC' => ?_⟩
  rw [put_toC hst h0 h1 hb hc hl e] at hC' ⊢
  have tt := tups_of hC.there hO
  have k1 := k H' hO
  have e3 : (q.putP pg e).1 = none ∧ (q.putP pg e).2.ct = q.ct.set pg.toNat (some e) ∨ (∃ x, (q.putP pg e).1 = some x ∧ (x = .dark ∨ ∃ b, x = .failed b)) ∧ (q.putP pg e).2.ct = q.ct := by
    unfold Pc.putP
    split
    · exact .inr ⟨⟨_, rfl, .inl rfl⟩, rfl⟩
    · split
      · exact .inl ⟨rfl, rfl⟩
      · exact .inr ⟨⟨_, rfl, .inr ⟨_, rfl⟩⟩, rfl⟩
  generalize hr : q.putP pg e = res at hC' k1 e3 ⊢
  obtain ⟨o, q'⟩ := res
  rcases e3 with ⟨e1, e2⟩ | ⟨⟨x, e1, hx⟩, e2⟩
  · dsimp only at e1 e2
    subst e1
    refine x_finOk (k1 ⟨_, hC', ?_⟩)
    dsimp only
    rw [e2]
    exact (hst.mono tt).set (tt _ _ ha)
  · dsimp only at e1 e2
    subst e1
    rcases hx with rfl | ⟨b, rfl⟩
    · have k2 := k1 ⟨_, hC', by dsimp only; rw [e2]; exact hst.mono tt⟩
      exact x_finDark k2
    · have k2 := k1 ⟨_, hC', by dsimp only; rw [e2]; exact hst.mono tt⟩
      exact k2
def Pc.new (b p m : Int) (l : List V) : Pc := { b, p, m, lasts := l, ct := List.replicate (b * p).toNat none, tried := List.replicate b.toNat 0, clr := List.replicate b.toNat 0, broken := List.replicate b.toNat false, left := none, log := [] }
theorem chipP_new {C : Addr} {H : Hp} {r : Addr} {F : CF} {b p m : Int} {l : List V} (h : ChipAt C H r F (Cs.new b p m l)) : ChipP C H r F (Pc.new b p m l) := by
  refine ⟨List.replicate (b * p).toNat .non, h, by show (List.replicate _ _).length = (List.replicate _ _).length; rw [List.length_replicate, List.length_replicate], fun i _ => .inl ⟨?_, ?_⟩⟩
  · show (List.replicate _ _).getD i none = none
    rw [List.getD_eq_getElem?_getD, List.getElem?_replicate]
    split <;> rfl
  · rw [List.getD_eq_getElem?_getD, List.getElem?_replicate]
    split <;> rfl
theorem good_of {q : Pc} {n : Nat} (h1 : n < q.b.toNat) (h2 : q.broken.getD n false = false) : n ∈ goodQ q := List.mem_filter.mpr ⟨List.mem_range.mpr h1, by rw [h2]; rfl⟩
theorem ChipP.fresh {C : Addr} {H : Hp} {r : Addr} {F : CF} {q : Pc} (h : ChipP C H r F q) {a : Addr} (ha : H a = none) : a ∉ F.all r := fun m => by
  obtain ⟨o, e, _⟩ := h.there a m
  rw [ha] at e
  cases e
/-! ### lists without twins -/
/-! ### what a chip's pages tell: the book found again -/
abbrev Ct := List (Option (Int × Int))
def wrC (c : Ct) (i : Nat) : Prop := c.getD i none ≠ none
def stC (c : Ct) (i : Nat) : Int := ((c.getD i none).getD (0, 0)).1 / 128
def nmC (c : Ct) (i : Nat) : Int := ((c.getD i none).getD (0, 0)).1 % 128
def vlC (c : Ct) (i : Nat) : Int := ((c.getD i none).getD (0, 0)).2
def bitZ (v n : Int) : Bool := v.toNat.testBit n.toNat
theorem mk_st {st n : Int} (h : 0 ≤ n ∧ n ≤ 64) : mk st n / 128 = st ∧ mk st n % 128 = n := by
  unfold mk
  omega
/-- pages as a store leaves them -/
structure Rb0 (c : Ct) (k : Bk) : Prop where
  rng : ∀ i, wrC c i → 1 ≤ stC c i ∧ stC c i < k.stamp ∧ nmC c i ≤ 64 ∧ 0 ≤ vlC c i ∧ vlC c i < 10 ^ 30 ∧ (nmC c i = 64 → vlC c i < 2 ^ 64)
  inj : ∀ i j, wrC c i → wrC c j → stC c i = stC c j → i = j
  srt : k.wh.Pairwise fun a b => stC c a.2.toNat < stC c b.2.toNat
  wr : ∀ n pg, getI k.wh n = some pg → wrC c pg.toNat ∧ nmC c pg.toNat = n ∧ ∀ j, wrC c j → nmC c j = n → stC c j ≤ stC c pg.toNat
  fil : ∀ n j : Nat, n < k.b.toNat → j < k.p.toNat → (wrC c (n * k.p.toNat + j) ↔ (j : Int) < k.fil.getD n 0)
  born : ∀ n : Nat, n < k.b.toNat → k.born.getD n 0 = if k.fil.getD n 0 = 0 then 0 else stC c (n * k.p.toNat)
  asc : ∀ n j : Nat, n < k.b.toNat → j + 1 < k.p.toNat → wrC c (n * k.p.toNat + (j + 1)) → stC c (n * k.p.toNat + j) < stC c (n * k.p.toNat + (j + 1))
  last : (k.stamp = 1 ∧ ∀ i, ¬ wrC c i) ∨ ∃ n pg, getI k.wh n = some pg ∧ stC c pg.toNat = k.stamp - 1
structure Roll (c : Ct) (k : Bk) : Prop where
  gone : ∀ i, wrC c i → getI k.wh (nmC c i) = none → ∃ rp, getI k.wh 64 = some rp ∧ stC c i < stC c rp.toNat ∧ bitZ (vlC c rp.toNat) (nmC c i) = false
  keep : ∀ n pg rp, getI k.wh n = some pg → n ≠ 64 → getI k.wh 64 = some rp → stC c pg.toNat < stC c rp.toNat → bitZ (vlC c rp.toNat) n = true
def AllN (c : Ct) (k : Bk) : Prop := ∀ i, wrC c i → getI k.wh (nmC c i) ≠ none
/-- one page more -/
structure Pl (c : Ct) (k : Bk) (to : Nat) (m : Nat) (x n v : Int) : Prop where
  lt : m < k.b.toNat
  f0 : 0 ≤ k.fil.getD m 0
  f1 : k.fil.getD m 0 < k.p
  eq : to = m * k.p.toNat + (k.fil.getD m 0).toNat
  blk : ((to : Int) / k.p).toNat = m
  free : ¬ wrC c to
  len : to < c.length
  fl : k.fil.length = k.b.toNat ∧ k.born.length = k.b.toNat
  st : k.stamp ≤ x ∧ 1 ≤ x
  nr : 0 ≤ n ∧ n ≤ 64
  vr : 0 ≤ v ∧ v < 10 ^ 30 ∧ (n = 64 → v < 2 ^ 64)
def setC (c : Ct) (to : Nat) (x n v : Int) : Ct := c.set to (some (mk x n, v))
theorem setC_get {c : Ct} {k : Bk} {to m : Nat} {x n v : Int} (P : Pl c k to m x n v) (i : Nat) : (setC c to x n v).getD i none = if i = to then some (mk x n, v) else c.getD i none := getD_set P.len
theorem setC_at {c : Ct} {k : Bk} {to m : Nat} {x n v : Int} (P : Pl c k to m x n v) : wrC (setC c to x n v) to ∧ stC (setC c to x n v) to = x ∧ nmC (setC c to x n v) to = n ∧ vlC (setC c to x n v) to = v := by
  unfold wrC stC nmC vlC
  rw [setC_get P, if_pos rfl]
  have := mk_st (st := x) P.nr
  exact ⟨(fun z => by cases z), this.1, this.2, rfl⟩
theorem setC_ne {c : Ct} {k : Bk} {to m : Nat} {x n v : Int} (P : Pl c k to m x n v) {i : Nat} (h : i ≠ to) : (wrC (setC c to x n v) i ↔ wrC c i) ∧ stC (setC c to x n v) i = stC c i ∧ nmC (setC c to x n v) i = nmC c i ∧ vlC (setC c to x n v) i = vlC c i := by
  unfold wrC stC nmC vlC
  rw [setC_get P, if_neg h]
  exact ⟨Iff.rfl, rfl, rfl, rfl⟩
def Bk.at (k : Bk) (x : Int) : Bk := { k with stamp := x }
theorem noteA_fil {k : Bk} {x pg n : Int} : ((k.at x).note pg n).fil = k.fil.set (pg / k.p).toNat (k.fil.getD (pg / k.p).toNat 0 + 1) := note_fil
theorem noteA_wh {k : Bk} {x pg n m : Int} : getI ((k.at x).note pg n).wh m = if m = n then some pg else getI k.wh m := note_wh
theorem noteA_st {k : Bk} {x pg n : Int} : ((k.at x).note pg n).stamp = x + 1 := note_st
theorem noteA_bp {k : Bk} {x pg n : Int} : ((k.at x).note pg n).b = k.b ∧ ((k.at x).note pg n).p = k.p := note_bp
theorem note_born {k : Bk} {pg n : Int} : (k.note pg n).born = if k.fil.getD (pg / k.p).toNat 0 = 0 then k.born.set (pg / k.p).toNat k.stamp else k.born := by
  show (if (k.drop n).fil.getD (pg / k.p).toNat 0 = 0 then (k.drop n).born.set (pg / k.p).toNat (k.drop n).stamp else (k.drop n).born) = _
  rw [drop_fil, drop_bn, drop_st]
theorem noteA_born {k : Bk} {x pg n : Int} : ((k.at x).note pg n).born = if k.fil.getD (pg / k.p).toNat 0 = 0 then k.born.set (pg / k.p).toNat x else k.born := note_born
theorem noteA_whE {k : Bk} {x pg n : Int} : ((k.at x).note pg n).wh = (k.drop n).wh ++ [(n, pg)] := by
  rw [note_whE, drop_whE, drop_whE]
  rfl
theorem drop_sub {k : Bk} {n : Int} : (k.drop n).wh.Sublist k.wh := by
  rw [drop_whE]
  cases getI k.wh n with
  | none => exact List.Sublist.refl _
  | some x => exact List.filter_sublist
theorem Pl.nlt {c : Ct} {k : Bk} {to m : Nat} {x n v : Int} (P : Pl c k to m x n v) {a j : Nat} (hj : j < k.p.toNat) (e : a * k.p.toNat + j = to) : a = m ∧ (j : Int) = k.fil.getD m 0 := by
  have h0 := P.f0
  have h1 := P.f1
  have := place_inj (p := k.p.toNat) (n := a) (m := m) (i := j) (j := (k.fil.getD m 0).toNat) hj (by omega) (e.trans P.eq)
  omega
theorem Rb0.put {c : Ct} {k : Bk} {to m : Nat} {x n v : Int} (h : Rb0 c k) (keys : (k.wh.map (·.1)).Nodup) (P : Pl c k to m x n v) : Rb0 (setC c to x n v) ((k.at x).note to n) := by
  obtain ⟨a1, a2, a3, a4⟩ := setC_at P
  have ne : ∀ {i}, i ≠ to → _ := fun {i} (hi : i ≠ to) => setC_ne P hi
  have old : ∀ i, wrC c i → i ≠ to := fun i hi z => P.free (z ▸ hi)
  have hx := P.st
  refine ⟨fun i hi => ?_, fun i j hi hj e => ?_, ?_, fun a pg hg => ?_, fun a j ha hj => ?_, fun a ha => ?_, fun a j ha hj hw => ?_, .inr ⟨n, to, ?_, ?_⟩⟩
  · rw [noteA_st]
    by_cases e : i = to
    · subst e
      rw [a2, a3, a4]
      have := P.nr
      have := P.vr
      exact ⟨by omega, by omega, by omega, by omega, by omega, P.vr.2.2⟩
    · obtain ⟨b1, b2, b3, b4⟩ := ne e
      rw [b2, b3, b4]
      obtain ⟨c1, c2, c3⟩ := h.rng i (b1.mp hi)
      exact ⟨c1, by omega, c3⟩
  · by_cases e1 : i = to
    · by_cases e2 : j = to
      · rw [e1, e2]
      · subst e1
        rw [a2, (ne e2).2.1] at e
        have := (h.rng j ((ne e2).1.mp hj)).2.1
        omega
    · by_cases e2 : j = to
      · subst e2
        rw [a2, (ne e1).2.1] at e
        have := (h.rng i ((ne e1).1.mp hi)).2.1
        omega
      · rw [(ne e1).2.1, (ne e2).2.1] at e
        exact h.inj i j ((ne e1).1.mp hi) ((ne e2).1.mp hj) e
  · have lv : ∀ e ∈ (k.drop n).wh, e.2.toNat ≠ to ∧ stC c e.2.toNat < x := fun e he => by
      have hg := getI_of_mem keys (n := e.1) (x := e.2) (drop_whm e he)
      obtain ⟨w1, _⟩ := h.wr _ _ hg
      have := (h.rng _ w1).2.1
      exact ⟨old _ w1, by omega⟩
    rw [noteA_whE, List.pairwise_append]
    refine ⟨List.Pairwise.imp_of_mem (fun {y z} hy hz q => ?_) (h.srt.sublist drop_sub), List.pairwise_singleton _ _, fun y hy z hz => ?_⟩
    · rw [(ne (lv y hy).1).2.1, (ne (lv z hz).1).2.1]
      exact q
    · rw [List.mem_singleton.mp hz, (ne (lv y hy).1).2.1]
      show _ < stC _ ((to : Int)).toNat
      rw [Int.toNat_natCast, a2]
      exact (lv y hy).2
  · rw [noteA_wh] at hg
    by_cases e : a = n
    · rw [if_pos e] at hg
      have hg : (to : Int) = pg := by injection hg
      subst hg e
      rw [Int.toNat_natCast]
      refine ⟨a1, a3, fun j hj hn => ?_⟩
      rw [a2]
      by_cases ej : j = to
      · rw [ej, a2]; exact Int.le_refl _
      · rw [(ne ej).2.1]
        have := (h.rng j ((ne ej).1.mp hj)).2.1
        omega
    · rw [if_neg e] at hg
      obtain ⟨w1, w2, w3⟩ := h.wr _ _ hg
      have hne := old _ w1
      rw [(ne hne).2.1, (ne hne).2.2.1]
      refine ⟨(ne hne).1.mpr w1, w2, fun j hj hn => ?_⟩
      by_cases ej : j = to
      · rw [ej, a3] at hn
        exact absurd hn.symm e
      · rw [(ne ej).2.1]
        rw [(ne ej).2.2.1] at hn
        exact w3 j ((ne ej).1.mp hj) hn
  · rw [noteA_bp.1] at ha
    rw [noteA_bp.2] at hj ⊢
    rw [noteA_fil, P.blk, getD_set (by rw [P.fl.1]; exact P.lt)]
    by_cases e : a * k.p.toNat + j = to
    · obtain ⟨e1, e2⟩ := P.nlt hj e
      rw [e, if_pos e1]
      exact ⟨fun _ => by omega, fun _ => a1⟩
    · rw [(ne e).1, h.fil a j ha hj]
      by_cases e1 : a = m
      · rw [if_pos e1, e1]
        have : (j : Int) ≠ k.fil.getD m 0 := fun z => e (by rw [P.eq, e1]; omega)
        omega
      · rw [if_neg e1]
  · rw [noteA_bp.1] at ha
    rw [noteA_bp.2, noteA_fil, noteA_born, P.blk, getD_set (by rw [P.fl.1]; exact P.lt)]
    have hf := h.born a ha
    have h0 := P.f0
    have hp : 0 < k.p.toNat := by have := P.f1; omega
    by_cases e1 : a = m
    · subst e1
      rw [if_pos rfl, if_neg (show ¬ (k.fil.getD a 0 + 1 = 0) by omega)]
      split
      · rename_i z
        rw [getD_set (by rw [P.fl.2]; exact P.lt), if_pos rfl]
        have : a * k.p.toNat = to := by rw [P.eq, z]; rfl
        rw [this, a2]
      · rename_i z
        rw [hf, if_neg z]
        have : a * k.p.toNat ≠ to := fun y => by
          have := P.nlt (a := a) (j := 0) hp (by rw [Nat.add_zero]; exact y)
          omega
        rw [(ne this).2.1]
    · rw [if_neg e1]
      have : a * k.p.toNat ≠ to := fun y => by
        have := P.nlt (a := a) (j := 0) hp (by rw [Nat.add_zero]; exact y)
        omega
      rw [(ne this).2.1]
      split
      · rw [getD_set (by rw [P.fl.2]; exact P.lt), if_neg e1]; exact hf
      · exact hf
  · rw [noteA_bp.1] at ha
    rw [noteA_bp.2] at hj hw ⊢
    by_cases e : a * k.p.toNat + (j + 1) = to
    · obtain ⟨e1, e2⟩ := P.nlt hj e
      have e3 : a * k.p.toNat + j ≠ to := by omega
      rw [e, a2, (ne e3).2.1]
      have hw : wrC c (a * k.p.toNat + j) := (h.fil a j ha (by omega)).mpr (by rw [e1]; omega)
      have := (h.rng _ hw).2.1
      omega
    · have hw' := (ne e).1.mp hw
      have hw2 : wrC c (a * k.p.toNat + j) := (h.fil a j ha (by omega)).mpr (by have := (h.fil a (j + 1) ha hj).mp hw'; omega)
      rw [(ne e).2.1, (ne (old _ hw2)).2.1]
      exact h.asc a j ha hj hw'
  · rw [noteA_wh, if_pos rfl]
  · rw [Int.toNat_natCast, a2, noteA_st]
    omega
theorem AllN.put {c : Ct} {k : Bk} {to m : Nat} {x n v : Int} (h : AllN c k) (P : Pl c k to m x n v) : AllN (setC c to x n v) ((k.at x).note to n) := fun i hi => by
  obtain ⟨a1, a2, a3, a4⟩ := setC_at P
  rw [noteA_wh]
  by_cases e : i = to
  · rw [e, a3, if_pos rfl]
    exact fun z => by cases z
  · obtain ⟨b1, b2, b3, b4⟩ := setC_ne P e
    rw [b3]
    split
    · exact fun z => by cases z
    · exact h i (b1.mp hi)
theorem Roll.put {c : Ct} {k : Bk} {to m : Nat} {x n v : Int} (r : Rb0 c k) (h : Roll c k) (P : Pl c k to m x n v) (hn : n ≠ 64) : Roll (setC c to x n v) ((k.at x).note to n) := by
  obtain ⟨a1, a2, a3, a4⟩ := setC_at P
  have old : ∀ i, wrC c i → i ≠ to := fun i hi z => P.free (z ▸ hi)
  have hx := P.st
  refine ⟨fun i hi hg => ?_, fun a pg rp hg ha hr hlt => ?_⟩
  · by_cases e : i = to
    · rw [e, a3, noteA_wh, if_pos rfl] at hg
      cases hg
    · obtain ⟨b1, b2, b3, b4⟩ := setC_ne P e
      rw [b3, noteA_wh] at hg
      split at hg
      · cases hg
      · obtain ⟨rp, g1, g2, g3⟩ := h.gone i (b1.mp hi) hg
        have hne := old _ (r.wr _ _ g1).1
        obtain ⟨d1, d2, d3, d4⟩ := setC_ne P hne
        exact ⟨rp, by rw [noteA_wh, if_neg (Ne.symm hn)]; exact g1, by rw [b2, d2]; exact g2, by rw [b3, d4]; exact g3⟩
  · rw [noteA_wh, if_neg (Ne.symm hn)] at hr
    have w1 := (r.wr _ _ hr).1
    obtain ⟨d1, d2, d3, d4⟩ := setC_ne P (old _ w1)
    rw [d2] at hlt
    rw [noteA_wh] at hg
    by_cases e : a = n
    · rw [if_pos e] at hg
      have hg : (to : Int) = pg := by injection hg
      rw [← hg, Int.toNat_natCast, a2] at hlt
      have := (r.rng _ w1).2.1
      omega
    · rw [if_neg e] at hg
      obtain ⟨b1, b2, b3, b4⟩ := setC_ne P (old _ (r.wr _ _ hg).1)
      rw [b2] at hlt
      rw [d4]
      exact h.keep a pg rp hg ha hr hlt
/-- the newest page is a roll -/
def NewR (c : Ct) (k : Bk) (rp : Int) : Prop := getI k.wh 64 = some rp ∧ stC c rp.toNat = k.stamp - 1
theorem Rb0.drop {c : Ct} {k : Bk} {n rp : Int} (h : Rb0 c k) (hR : NewR c k rp) (hn : n ≠ 64) : Rb0 c (k.drop n) ∧ NewR c (k.drop n) rp := by
  have e : NewR c (k.drop n) rp := ⟨by rw [drop_wh, if_neg (Ne.symm hn)]; exact hR.1, by rw [drop_st]; exact hR.2⟩
  refine ⟨⟨by rw [drop_st]; exact h.rng, h.inj, h.srt.sublist drop_sub, fun a pg hg => ?_, by rw [drop_b, drop_p, drop_fil]; exact h.fil, by rw [drop_b, drop_p, drop_fil, drop_bn]; exact h.born, by rw [drop_b, drop_p]; exact h.asc, .inr ⟨64, rp, e.1, e.2⟩⟩, e⟩
  rw [drop_wh] at hg
  split at hg
  · cases hg
  · exact h.wr _ _ hg
theorem Rb0.drops {c : Ct} {rp : Int} : ∀ {l : List Int} {k : Bk}, Rb0 c k → NewR c k rp → (∀ n ∈ l, n ≠ 64) → Rb0 c (k.drops l) ∧ NewR c (k.drops l) rp
  | [], _, h, hR, _ => ⟨h, hR⟩
  | n :: l, k, h, hR, hn => by
    obtain ⟨h1, h2⟩ := h.drop hR (hn n List.mem_cons_self)
    exact Rb0.drops (l := l) (k := k.drop n) h1 h2 fun m hm => hn m (List.mem_cons_of_mem _ hm)
theorem drops_whR {m : Int} : ∀ {l : List Int} {k : Bk}, getI (k.drops l).wh m = if m ∈ l then none else getI k.wh m
  | [], k => by rw [if_neg (by simp)]; rfl
  | n :: l, k => by
    show getI ((k.drop n).drops l).wh m = _
    rw [drops_whR (l := l), drop_wh]
    by_cases h1 : m ∈ l
    · rw [if_pos h1, if_pos (List.mem_cons_of_mem _ h1)]
    · rw [if_neg h1]
      by_cases h2 : m = n
      · rw [if_pos h2, if_pos (by rw [h2]; exact List.mem_cons_self)]
      · rw [if_neg h2, if_neg (fun z => (List.mem_cons.mp z).elim h2 h1)]
/-- behind a roll: what its bits don't name is dropped -/
theorem roll_of {c : Ct} {k : Bk} {rp : Int} {l : List Int} (h : Rb0 c k) (hR : NewR c k rp) (hl : ∀ n ∈ l, n ≠ 64) (h1 : ∀ n pg, getI k.wh n = some pg → n ≠ 64 → (n ∈ l ↔ bitZ (vlC c rp.toNat) n = false))
    (h2 : ∀ i, wrC c i → getI k.wh (nmC c i) = none → bitZ (vlC c rp.toNat) (nmC c i) = false) : Rb0 c (k.drops l) ∧ Roll c (k.drops l) := by
  obtain ⟨r1, r2⟩ := h.drops hR hl
  refine ⟨r1, fun i hi hg => ⟨rp, r2.1, ?_, ?_⟩, fun n pg rp2 hg hn hr _ => ?_⟩
  · have := (h.rng i hi).2.1
    have e := hR.2
    rcases Int.lt_trichotomy (stC c i) (stC c rp.toNat) with z | z | z
    · exact z
    · have w := h.wr _ _ hR.1
      have := h.inj _ _ hi w.1 z
      subst this
      rw [w.2.1, r2.1] at hg
      cases hg
    · omega
  · rw [drops_whR] at hg
    split at hg
    · rename_i hm
      cases hx : getI k.wh (nmC c i) with
      | none => exact h2 i hi hx
      | some pg => exact (h1 _ pg hx (hl _ hm)).mp hm
    · exact h2 i hi hg
  · have : rp2 = rp := by
      have := r2.1
      rw [hr] at this
      injection this
    subst this
    rw [drops_whR] at hg
    split at hg
    · cases hg
    · rename_i hm
      cases hb : bitZ (vlC c rp2.toNat) n with
      | true => rfl
      | false => exact absurd ((h1 n pg hg hn).mpr hb) hm
/-! a block is cleared -/
/-! ### there is one such book -/
theorem Rb0.half {c : Ct} {k k' : Bk} (hb : BkOk k) (hb' : BkOk k') (h : Rb0 c k) (r : Roll c k) (h' : Rb0 c k') (r' : Roll c k') {n pg : Int} (hg : getI k.wh n = some pg) : getI k'.wh n = some pg := by
  have same : ∀ {m a b : Int}, getI k.wh m = some a → getI k'.wh m = some b → a = b := fun {m a b} ha hb2 => by
    obtain ⟨w1, w2, w3⟩ := h.wr _ _ ha
    obtain ⟨v1, v2, v3⟩ := h'.wr _ _ hb2
    have := h.inj _ _ w1 v1 (Int.le_antisymm (v3 _ w1 w2) (w3 _ v1 v2))
    have p1 := (hb.wh _ (getI_mem ha)).1
    have p2 := (hb'.wh _ (getI_mem hb2)).1
    dsimp only at p1 p2
    omega
  cases hx : getI k'.wh n with
  | some pg' => rw [same hg hx]
  | none =>
    obtain ⟨w1, w2, w3⟩ := h.wr _ _ hg
    obtain ⟨rp', g1, g2, g3⟩ := r'.gone pg.toNat w1 (by rw [w2]; exact hx)
    rw [w2] at g3
    have hn : n ≠ 64 := fun z => by rw [z, g1] at hx; cases hx
    obtain ⟨v1, v2, v3⟩ := h'.wr _ _ g1
    cases hy : getI k.wh 64 with
    | none =>
      obtain ⟨rp, y1, _⟩ := r.gone rp'.toNat v1 (by rw [v2]; exact hy)
      rw [hy] at y1
      cases y1
    | some rp =>
      have e := same hy g1
      subst e
      have := r.keep n pg rp hg hn hy g2
      rw [g3] at this
      cases this
theorem wh_eq {c : Ct} {l l' : List (Int × Int)} (hk : (l.map (·.1)).Nodup) (hk' : (l'.map (·.1)).Nodup) (hs : l.Pairwise fun a b => stC c a.2.toNat < stC c b.2.toNat) (hs' : l'.Pairwise fun a b => stC c a.2.toNat < stC c b.2.toNat)
    (e : ∀ n, getI l n = getI l' n) : l = l' := by
  have nd : ∀ {l : List (Int × Int)}, (l.map (·.1)).Nodup → l.Nodup := fun {l} h => List.Pairwise.of_map (fun e : Int × Int => e.1) (fun a b (h : a.1 ≠ b.1) (z : a = b) => h (by rw [z])) h
  have mem : ∀ {l l' : List (Int × Int)}, (l.map (·.1)).Nodup → (∀ n, getI l n = getI l' n) → ∀ x, x ∈ l → x ∈ l' := fun {l l'} h e x hx => by
    have := getI_of_mem h (n := x.1) (x := x.2) hx
    rw [e] at this
    exact getI_mem this
  refine List.Perm.eq_of_pairwise (le := fun a b => stC c a.2.toNat < stC c b.2.toNat) (fun a b _ _ h1 h2 => by omega) hs hs' ((List.perm_ext_iff_of_nodup (nd hk) (nd hk')).mpr fun x => ⟨mem hk e x, mem hk' (fun n => (e n).symm) x⟩)
theorem Rb0.uniq {c : Ct} {q q' : Pc} {k k' : Bk} (w : Wf q k) (w' : Wf q' k') (eb : k'.b = k.b) (ep : k'.p = k.p) (h : Rb0 c k) (r : Roll c k) (h' : Rb0 c k') (r' : Roll c k') : k = k' := by
  have ge : ∀ n, getI k.wh n = getI k'.wh n := fun n => by
    cases hx : getI k.wh n with
    | some pg => exact (Rb0.half w.bk w'.bk h r h' r' hx).symm
    | none =>
      cases hy : getI k'.wh n with
      | none => rfl
      | some pg =>
        have := Rb0.half w'.bk w.bk h' r' h r hy
        rw [hx] at this
        cases this
  have ew : k.wh = k'.wh := wh_eq w.keys w'.keys h.srt h'.srt ge
  have hp := w.bk.p
  have hp' := w'.bk.p
  have hbb := w.bk.b
  have ext : ∀ {l l' : List Int}, (l.length : Int) = k.b → (l'.length : Int) = k'.b → (∀ n : Nat, n < k.b.toNat → l.getD n 0 = l'.getD n 0) → l = l' := fun {l l'} h1 h2 h3 => by
    refine List.ext_getElem? fun i => ?_
    by_cases hi : i < k.b.toNat
    · have := h3 i hi
      rw [List.getD_eq_getElem?_getD, List.getD_eq_getElem?_getD, List.getElem?_eq_getElem (by omega), List.getElem?_eq_getElem (by omega)] at this
      rw [List.getElem?_eq_getElem (by omega), List.getElem?_eq_getElem (by omega)]
      exact congrArg some this
    · rw [List.getElem?_eq_none (by omega), List.getElem?_eq_none (by omega)]
  have hfl : ∀ n : Nat, n < k.b.toNat → k.fil.getD n 0 = k'.fil.getD n 0 := fun n hn => by
    have f0 := w.fil n
    have f1 := w'.fil n
    have key : ∀ {x y : Int}, 0 ≤ x → x ≤ k.p → 0 ≤ y → y ≤ k.p → (∀ j : Nat, j < k.p.toNat → ((j : Int) < x ↔ (j : Int) < y)) → x ≤ y := fun {x y} a1 a2 b1 b2 hh => by
      by_cases hle : x ≤ y
      · exact hle
      · have := (hh y.toNat (by omega)).mp (by omega)
        omega
    have eq : ∀ j : Nat, j < k.p.toNat → ((j : Int) < k.fil.getD n 0 ↔ (j : Int) < k'.fil.getD n 0) := fun j hj => by
      rw [← h.fil n j hn hj, ← h'.fil n j (by rw [eb]; exact hn) (by rw [ep]; exact hj), ep]
    rw [ep] at f1
    exact Int.le_antisymm (key f0.1 f0.2 f1.1 f1.2 eq) (key f1.1 f1.2 f0.1 f0.2 fun j hj => (eq j hj).symm)
  have efil : k.fil = k'.fil := ext w.bk.fil w'.bk.fil hfl
  have eborn : k.born = k'.born := ext w.bk.born w'.bk.born fun n hn => by
    rw [h.born n hn, h'.born n (by rw [eb]; exact hn), hfl n hn, ep]
  have elive : k.live = k'.live := ext w.bk.live w'.bk.live fun n hn => by
    have e1 := w.kb
    have e2 := w'.kb
    rw [w.lv n (by omega), w'.lv n (by omega), ew, ep]
  have enm : k.nm = k'.nm := by
    have l1 := w.bk.nm
    have l2 := w'.bk.nm
    rw [eb, ep] at l2
    refine List.ext_getElem? fun i => ?_
    by_cases hi : i < k.nm.length
    · have key : k.nm.getD i .non = k'.nm.getD i .non := by
        rcases w.nms i with z | ⟨a, z1, z2⟩
        · rw [z]
          rcases w'.nms i with y | ⟨b, y1, y2⟩
          · exact y.symm
          · rw [← ge] at y2
            have := (w.own _ _ y2).2
            rw [Int.toNat_natCast, z] at this
            cases this
        · rw [ge] at z2
          have := (w'.own _ _ z2).2
          rw [Int.toNat_natCast] at this
          rw [z1, this]
      rw [List.getD_eq_getElem?_getD, List.getD_eq_getElem?_getD, List.getElem?_eq_getElem hi, List.getElem?_eq_getElem (by omega)] at key
      rw [List.getElem?_eq_getElem hi, List.getElem?_eq_getElem (by omega)]
      exact congrArg some key
    · rw [List.getElem?_eq_none (by omega), List.getElem?_eq_none (by omega)]
  have est : k.stamp = k'.stamp := by
    have lo : ∀ {a b : Bk}, Rb0 c a → Rb0 c b → (∀ n, getI a.wh n = getI b.wh n) → a.stamp ≤ b.stamp ∨ (b.stamp = 1 ∧ ∀ i, ¬ wrC c i) := fun {a b} ha hb2 e => by
      rcases hb2.last with z | ⟨n, pg, g, es⟩
      · exact .inr z
      · rcases ha.last with ⟨z, _⟩ | ⟨n2, pg2, g2, es2⟩
        · have := (hb2.rng _ (hb2.wr _ _ g).1).1
          omega
        · have := (hb2.rng _ (ha.wr _ _ g2).1).2.1
          omega
    rcases lo h h' ge with z1 | ⟨z1, z2⟩
    · rcases lo h' h (fun n => (ge n).symm) with y1 | ⟨y1, y2⟩
      · omega
      · rcases h'.last with ⟨x1, _⟩ | ⟨_, _, g, _⟩
        · omega
        · exact absurd (h'.wr _ _ g).1 (y2 _)
    · rcases h.last with ⟨x1, _⟩ | ⟨_, _, g, _⟩
      · omega
      · exact absurd (h.wr _ _ g).1 (z2 _)
  obtain ⟨b, p, wh, nm, live, fil, born, stamp⟩ := k
  obtain ⟨b', p', wh', nm', live', fil', born', stamp'⟩ := k'
  dsimp only at *
  rw [eb, ep, ew, enm, elive, efil, eborn, est]
/-! ### the book found from the pages -/
structure Row where
  st : Int
  pg : Int
  nm : Int
  v : Int
def rowC (c : Ct) (i : Nat) : Option Row := (c.getD i none).map fun e => ⟨e.1 / 128, (i : Int), e.1 % 128, e.2⟩
def rowsC (c : Ct) : List Row := (List.range c.length).filterMap (rowC c)
def rowsQ (c : Ct) : List Row := (rowsC c).mergeSort fun a b => decide (a.st ≤ b.st)
def newR (a : Int) (l : List Row) : Int := l.foldl (fun a r => if r.nm = 64 then r.st else a) a
def keptV (v : Int) : List Int := zI (shN v.toNat)
def cutN (k : Bk) (v : Int) : List Int := (heldL k).filter fun n => !decide (n ∈ keptV v)
def stepR (N : Int) (k : Bk) (r : Row) : Bk := if r.st = N then ((k.at r.st).note r.pg r.nm).drops (cutN ((k.at r.st).note r.pg r.nm) r.v) else (k.at r.st).note r.pg r.nm
def bookR (b p : Int) (l : List Row) : Bk := l.foldl (stepR (newR 0 l)) (Bk.new b p)
theorem newR_split : ∀ (l : List Row) (a : Int), ((∀ r ∈ l, r.nm ≠ 64) ∧ newR a l = a) ∨ ∃ pre R post, l = pre ++ R :: post ∧ R.nm = 64 ∧ (∀ r ∈ post, r.nm ≠ 64) ∧ newR a l = R.st
  | [], a => .inl ⟨(fun r h => by cases h), rfl⟩
  | x :: l, a => by
    rcases newR_split l (if x.nm = 64 then x.st else a) with ⟨h1, h2⟩ | ⟨pre, R, post, h1, h2, h3, h4⟩
    · by_cases hx : x.nm = 64
      · refine .inr ⟨[], x, l, rfl, hx, h1, ?_⟩
        show newR _ l = _
        rw [h2, if_pos hx]
      · refine .inl ⟨fun r hr => ?_, ?_⟩
        · rcases List.mem_cons.mp hr with rfl | hr
          · exact hx
          · exact h1 r hr
        · show newR _ l = _
          rw [h2, if_neg hx]
    · exact .inr ⟨x :: pre, R, post, by rw [h1]; rfl, h2, h3, h4⟩
theorem Wf.at {q : Pc} {k : Bk} {x : Int} (h : Wf q k) (hx : k.stamp ≤ x) (hx2 : x < 10 ^ 40) : Wf q (k.at x) :=
  ⟨h.kb, h.kp, h.ctl, ⟨h.bk.b, h.bk.p, h.bk.nm, h.bk.live, h.bk.fil, h.bk.born, h.bk.wh, h.bk.whl, ⟨by have := h.bk.st.1; show 0 ≤ x; omega, hx2⟩⟩, h.fil, h.clear, h.keys, h.rng, h.own, h.nms, h.lv, fun n => by
    have := h.bn n
    show 0 ≤ k.born.getD n 0 ∧ k.born.getD n 0 < x
    omega, h.cb⟩
theorem range_one {m : Nat} : ∀ {b : Nat}, (List.range b).filter (fun n => decide (n = m)) = if m < b then [m] else []
  | 0 => by simp
  | b + 1 => by
    rw [List.range_succ, List.filter_append, range_one (b := b)]
    by_cases h : m < b
    · rw [if_pos h, if_pos (by omega), List.filter_cons_of_neg (by simp; omega)]
      rfl
    · rw [if_neg h]
      by_cases e : m = b
      · rw [if_pos (by omega), List.filter_cons_of_pos (by simp [e])]
        simp [e]
      · rw [if_neg (by omega), List.filter_cons_of_neg (by simp; omega)]
        rfl
theorem wf_putP {q : Pc} {k : Bk} {to m : Nat} {x n v : Int} (w : Wf q k) (P : Pl q.ct k to m x n v) (hx : x + 1 < 10 ^ 40) : ∃ q', Wf q' ((k.at x).note to n) ∧ q'.ct = setC q.ct to x n v ∧ q'.b = q.b ∧ q'.p = q.p := by
  have hst := P.st
  have hm : m < q.b.toNat := by have := P.lt; rw [w.kb] at this; exact this
  have w0 : Wf { q with broken := (List.range q.b.toNat).map fun i => !decide (i = m) } (k.at x) := (w.chip (q' := { q with broken := (List.range q.b.toNat).map fun i => !decide (i = m) }) rfl rfl rfl rfl (Nat.le_refl _)).at hst.1 (by omega)
  generalize hq0 : ({ q with broken := (List.range q.b.toNat).map fun i => !decide (i = m) } : Pc) = q0 at w0
  have e1 : q0.b = q.b := by rw [← hq0]
  have e2 : q0.p = q.p := by rw [← hq0]
  have e3 : q0.ct = q.ct := by rw [← hq0]
  have e4 : q0.broken = (List.range q.b.toNat).map fun i => !decide (i = m) := by rw [← hq0]
  have br : ∀ i, i < q.b.toNat → q0.broken.getD i false = !decide (i = m) := fun i hi => by
    rw [e4, List.getD_eq_getElem?_getD, List.getElem?_map, List.getElem?_range hi]
    rfl
  have hg : goodQ q0 = [m] := by
    unfold goodQ
    rw [e1, ← (show (List.range q.b.toNat).filter (fun n => decide (n = m)) = [m] by rw [range_one, if_pos hm])]
    refine List.filter_congr fun i hi => ?_
    rw [br i (List.mem_range.mp hi), Bool.not_not]
  have f0 := P.f0
  have f1 := P.f1
  have kp : k.p = q0.p := by rw [e2, w.kp]
  have hp := w.bk.p
  have nx : nextQ q0 (k.at x) = some m := by
    unfold nextQ
    cases hpo : partQ q0 (k.at x) with
    | some n =>
      have := partQ_mem hpo
      have hn : n ∈ goodQ q0 := good_of this.1 this.2.2.2
      rw [hg, List.mem_singleton] at hn
      rw [hn]
    | none =>
      have hz : (k.at x).fil.getD m 0 = 0 := by
        unfold partQ at hpo
        rw [hg, List.find?_cons] at hpo
        split at hpo
        · cases hpo
        · rename_i hh
          rw [Bool.and_eq_false_iff] at hh
          show k.fil.getD m 0 = 0
          rcases hh with z | z
          · have := of_decide_eq_false z
            have : ¬ 0 < k.fil.getD m 0 := this
            omega
          · have : ¬ k.fil.getD m 0 < q0.p := of_decide_eq_false z
            omega
      have : freeQ q0 (k.at x) = [(q0.clr.getD m 0, (m : Int))] := by
        unfold freeQ
        rw [hg, List.filter_cons_of_pos (by rw [hz]; rfl)]
        rfl
      rw [this, show sortP [(q0.clr.getD m 0, (m : Int))] = [(q0.clr.getD m 0, (m : Int))] from List.mergeSort_singleton _]
      rfl
  have blk : ((to : Nat) : Int) / q0.p = (m : Int) := by
    have := P.blk
    rw [kp] at this
    have h0 : 0 ≤ ((to : Nat) : Int) / q0.p := Int.ediv_nonneg (Int.natCast_nonneg _) (by omega)
    omega
  have eqI : ((to : Nat) : Int) = (m : Int) * q0.p + k.fil.getD m 0 := by
    have e := P.eq
    obtain ⟨p', hp'⟩ := Int.eq_ofNat_of_zero_le (show 0 ≤ k.p by omega)
    obtain ⟨f', hf'⟩ := Int.eq_ofNat_of_zero_le f0
    rw [← kp, hp', hf', e, hp', hf', Int.toNat_natCast, Int.toNat_natCast, Int.natCast_add, Int.natCast_mul]
  have sp : Spot q0 (k.at x) ((to : Nat) : Int) m := by
    refine ⟨nx, eqI, by rw [e1]; exact hm, f0, by rw [← kp]; exact f1, ?_, blk, by rw [Int.toNat_natCast, ← kp]; exact P.eq, Int.natCast_nonneg _, ?_⟩
    · rw [br m hm]; simp
    · have := w0.ctl
      have := P.len
      rw [← e3] at this
      omega
  refine ⟨{ q0 with ct := setC q.ct to x n v }, w0.put (q' := { q0 with ct := setC q.ct to x n v }) (e := (mk x n, v)) sp ⟨P.nr.1, P.nr.2⟩ (by show x + 1 < _; exact hx) rfl rfl ?_ rfl (Nat.le_refl _), rfl, e1, e2⟩
  show setC q.ct to x n v = _
  rw [e3, Int.toNat_natCast]
  rfl
/-- where the finding stands -/
structure MidR (c : Ct) (k : Bk) (q1 : Pc) (k1 : Bk) (rest : List Row) : Prop where
  rb : Rb0 q1.ct k1
  wf : Wf q1 k1
  eb : k1.b = k.b
  ep : k1.p = k.p
  len : q1.ct.length = c.length
  agr : ∀ i, wrC q1.ct i → q1.ct.getD i none = c.getD i none
  cov : ∀ i, wrC c i → ¬ wrC q1.ct i → ∃ r ∈ rest, r.pg = (i : Int)
  row : ∀ r ∈ rest, ∃ i, rowC c i = some r ∧ ¬ wrC q1.ct i
  srt : rest.Pairwise fun a b => a.st < b.st
  low : ∀ r ∈ rest, k1.stamp ≤ r.st
theorem rowC_some {c : Ct} {i : Nat} {r : Row} (h : rowC c i = some r) : wrC c i ∧ r.st = stC c i ∧ r.pg = (i : Int) ∧ r.nm = nmC c i ∧ r.v = vlC c i ∧ c.getD i none = some (mk r.st r.nm, r.v) := by
  unfold rowC at h
  cases e : c.getD i none with
  | none => rw [e] at h; cases h
  | some x =>
    rw [e] at h
    have h : (⟨x.1 / 128, (i : Int), x.1 % 128, x.2⟩ : Row) = r := by injection h
    subst h
    unfold wrC stC nmC vlC
    rw [e]
    refine ⟨(fun z => by cases z), rfl, rfl, rfl, rfl, ?_⟩
    unfold mk
    have : x.1 / 128 * 128 + x.1 % 128 = x.1 := by omega
    dsimp only
    rw [this]
theorem Rb0.asc2 {c : Ct} {k : Bk} (h : Rb0 c k) {n : Nat} (hn : n < k.b.toNat) {i : Nat} : ∀ {j : Nat}, i < j → j < k.p.toNat → wrC c (n * k.p.toNat + j) → stC c (n * k.p.toNat + i) < stC c (n * k.p.toNat + j)
  | 0, hi, _, _ => absurd hi (Nat.not_lt_zero _)
  | j + 1, hi, hj, hw => by
    have h1 := h.asc n j hn hj hw
    by_cases e : i = j
    · rw [e]; exact h1
    · have hw2 : wrC c (n * k.p.toNat + j) := (h.fil n j hn (by omega)).mpr (by have := (h.fil n (j + 1) hn hj).mp hw; omega)
      have := h.asc2 hn (i := i) (j := j) (by omega) (by omega) hw2
      omega
theorem MidR.pl {c : Ct} {k : Bk} {q1 : Pc} {k1 : Bk} {r : Row} {rest : List Row} (hc : Rb0 c k) (hl : (c.length : Int) = k.b * k.p) (M : MidR c k q1 k1 (r :: rest)) : ∃ i m : Nat, rowC c i = some r ∧ Pl q1.ct k1 i m r.st r.nm r.v := by
  obtain ⟨i, hi, hfree⟩ := M.row r List.mem_cons_self
  obtain ⟨w1, e1, e2, e3, e4, e5⟩ := rowC_some hi
  have hrg := hc.rng i w1
  have hp := M.wf.bk.p
  have hbb := M.wf.bk.b
  rw [M.ep] at hp
  rw [M.eb] at hbb
  have ilt : i < c.length := by
    by_cases z : i < c.length
    · exact z
    · exact absurd (by unfold wrC at w1; rw [List.getD_eq_getElem?_getD, List.getElem?_eq_none (by omega)] at w1; exact w1 rfl) id
  have hP0 : 0 < k.p.toNat := by omega
  have hbp : (k.b * k.p).toNat = k.b.toNat * k.p.toNat := by
    obtain ⟨a, ha⟩ := Int.eq_ofNat_of_zero_le (show 0 ≤ k.b by omega)
    obtain ⟨b, hb⟩ := Int.eq_ofNat_of_zero_le (show 0 ≤ k.p by omega)
    rw [ha, hb, ← Int.natCast_mul, Int.toNat_natCast, Int.toNat_natCast, Int.toNat_natCast]
  have hm : i / k.p.toNat < k.b.toNat := Nat.div_lt_of_lt_mul (by rw [Nat.mul_comm]; omega)
  have hj : i % k.p.toNat < k.p.toNat := Nat.mod_lt _ hP0
  have hij : i / k.p.toNat * k.p.toNat + i % k.p.toNat = i := by rw [Nat.mul_comm]; exact Nat.div_add_mod _ _
  generalize hmd : i / k.p.toNat = m at hm hij
  generalize hjd : i % k.p.toNat = j at hj hij
  have f := M.wf.fil m
  rw [M.ep] at f
  have hfil := M.rb.fil m
  rw [M.eb, M.ep] at hfil
  have a1 : ¬ (j : Int) < k1.fil.getD m 0 := fun z => hfree (by rw [← hij]; exact (hfil j hm hj).mpr z)
  have a2 : ¬ k1.fil.getD m 0 < (j : Int) := fun z => by
    obtain ⟨g, hg⟩ := Int.eq_ofNat_of_zero_le f.1
    have hgj : g < j := by omega
    have wj : wrC c (m * k.p.toNat + j) := by rw [hij]; exact w1
    have wg : wrC c (m * k.p.toNat + g) := (hc.fil m g hm (by omega)).mpr (by have := (hc.fil m j hm hj).mp wj; omega)
    have ng : ¬ wrC q1.ct (m * k.p.toNat + g) := fun y => by
      have := (hfil g hm (by omega)).mp y
      omega
    obtain ⟨r', hr', er'⟩ := M.cov _ wg ng
    have hlt := hc.asc2 hm hgj hj wj
    rw [hij, ← e1] at hlt
    obtain ⟨i', hi', _⟩ := M.row r' hr'
    obtain ⟨_, d1, d2, _⟩ := rowC_some hi'
    have ei : i' = m * k.p.toNat + g := by omega
    rw [ei] at d1
    rcases List.mem_cons.mp hr' with z2 | z2
    · rw [z2] at d1
      omega
    · have := (List.pairwise_cons.mp M.srt).1 r' z2
      omega
  have hlow := M.low r List.mem_cons_self
  have hfl := M.wf.bk.fil
  have hbl := M.wf.bk.born
  rw [M.eb] at hfl hbl
  refine ⟨i, m, hi, ⟨by rw [M.eb]; exact hm, f.1, by rw [M.ep]; omega, by rw [M.ep, ← hij]; omega, ?_, hfree, by rw [M.len]; exact ilt, by rw [M.eb]; omega, ⟨hlow, by rw [e1]; exact hrg.1⟩, ⟨by rw [e3]; unfold nmC; omega, by rw [e3]; exact hrg.2.2.1⟩, ⟨by rw [e4]; exact hrg.2.2.2.1, by rw [e4]; exact hrg.2.2.2.2.1, fun z => by rw [e4]; exact hrg.2.2.2.2.2 (e3 ▸ z)⟩⟩⟩
  rw [M.ep]
  obtain ⟨p', hp'⟩ := Int.eq_ofNat_of_zero_le (show 0 ≤ k.p by omega)
  rw [hp', ← Int.natCast_ediv, Int.toNat_natCast]
  rw [hp', Int.toNat_natCast] at hmd
  exact hmd
theorem MidR.step {c : Ct} {k : Bk} {q1 : Pc} {k1 : Bk} {r : Row} {rest : List Row} {i m : Nat} (hc : Rb0 c k) (hst : k.stamp < 10 ^ 39) (M : MidR c k q1 k1 (r :: rest)) (hi : rowC c i = some r) (P : Pl q1.ct k1 i m r.st r.nm r.v) :
    ∃ q2, MidR c k q2 ((k1.at r.st).note r.pg r.nm) rest ∧ q2.ct = setC q1.ct i r.st r.nm r.v := by
  obtain ⟨w1, e1, e2, e3, e4, e5⟩ := rowC_some hi
  have hrg := hc.rng i w1
  obtain ⟨q2, W, c1, c2, c3⟩ := wf_putP M.wf P (by omega)
  have hrb := M.rb.put M.wf.keys P
  rw [← e2] at W hrb
  have srt := List.pairwise_cons.mp M.srt
  refine ⟨q2, ⟨by rw [c1]; exact hrb, W, noteA_bp.1.trans M.eb, noteA_bp.2.trans M.ep, by rw [c1]; unfold setC; rw [List.length_set]; exact M.len, fun j hj => ?_, fun j hj hn => ?_, fun r' hr' => ?_, srt.2, fun r' hr' => ?_⟩, c1⟩
  · rw [c1, setC_get P]
    by_cases ej : j = i
    · rw [if_pos ej, ej, e5]
    · rw [if_neg ej]
      rw [c1] at hj
      exact M.agr j ((setC_ne P ej).1.mp hj)
  · by_cases ej : j = i
    · rw [c1, ej] at hn
      exact absurd (setC_at P).1 hn
    · rw [c1] at hn
      obtain ⟨r', hr', er'⟩ := M.cov j hj fun z => hn ((setC_ne P ej).1.mpr z)
      rcases List.mem_cons.mp hr' with z | z
      · rw [z, e2] at er'
        omega
      · exact ⟨r', z, er'⟩
  · obtain ⟨j, hj, hf⟩ := M.row r' (List.mem_cons_of_mem _ hr')
    refine ⟨j, hj, fun z => ?_⟩
    have hs := srt.1 r' hr'
    have ej : j ≠ i := fun y => by
      rw [y, hi] at hj
      have er : r = r' := by injection hj
      rw [← er] at hs
      omega
    rw [c1] at z
    exact hf ((setC_ne P ej).1.mp z)
  · rw [noteA_st]
    have := srt.1 r' hr'
    omega
theorem foldA {c : Ct} {k : Bk} {N : Int} (hc : Rb0 c k) (hl : (c.length : Int) = k.b * k.p) (hst : k.stamp < 10 ^ 39) {post : List Row} : ∀ {pre : List Row} {q1 : Pc} {k1 : Bk}, MidR c k q1 k1 (pre ++ post) → (∀ r ∈ pre, r.st ≠ N) →
    ∃ q2, MidR c k q2 (pre.foldl (stepR N) k1) post ∧ (AllN q1.ct k1 → AllN q2.ct (pre.foldl (stepR N) k1)) ∧ (Roll q1.ct k1 → (∀ r ∈ pre, r.nm ≠ 64) → Roll q2.ct (pre.foldl (stepR N) k1))
  | [], q1, k1, M, _ => ⟨q1, M, id, fun h _ => h⟩
  | r :: pre, q1, k1, M, hN => by
    obtain ⟨i, m, hi, P⟩ := M.pl hc hl
    obtain ⟨q2, M2, c2⟩ := M.step hc hst hi P
    have es : stepR N k1 r = (k1.at r.st).note r.pg r.nm := if_neg (hN r List.mem_cons_self)
    obtain ⟨q3, M3, a3, b3⟩ := foldA hc hl hst M2 fun r' hr' => hN r' (List.mem_cons_of_mem _ hr')
    have ep := (rowC_some hi).2.2.1
    rw [List.foldl_cons, es]
    refine ⟨q3, M3, fun h => a3 ?_, fun h hr => b3 ?_ fun r' hr' => hr r' (List.mem_cons_of_mem _ hr')⟩
    · rw [c2, ep]
      exact h.put P
    · rw [c2, ep]
      exact Roll.put M.rb h P (hr r List.mem_cons_self)
theorem rowsQ_mem {c : Ct} {r : Row} : r ∈ rowsQ c ↔ ∃ i, rowC c i = some r := by
  unfold rowsQ
  rw [(List.mergeSort_perm _ _).mem_iff]
  unfold rowsC
  rw [List.mem_filterMap]
  refine ⟨fun ⟨i, _, h⟩ => ⟨i, h⟩, fun ⟨i, h⟩ => ⟨i, List.mem_range.mpr ?_, h⟩⟩
  by_cases z : i < c.length
  · exact z
  · unfold rowC at h
    rw [List.getD_eq_getElem?_getD, List.getElem?_eq_none (by omega)] at h
    cases h
theorem rowsQ_srt {c : Ct} {k : Bk} (h : Rb0 c k) : (rowsQ c).Pairwise fun a b => a.st < b.st := by
  have h1 : (rowsC c).Pairwise fun a b => a.st ≠ b.st := by
    unfold rowsC
    refine List.pairwise_filterMap.mpr (List.Pairwise.imp (fun {i j} hij a ha b hb e => ?_) List.nodup_range)
    obtain ⟨w1, e1, _⟩ := rowC_some ha
    obtain ⟨w2, e2, _⟩ := rowC_some hb
    exact hij (h.inj i j w1 w2 (by rw [← e1, ← e2]; exact e))
  have h2 : (rowsQ c).Pairwise fun a b => a.st ≠ b.st := (List.Perm.pairwise_iff (fun {a b} z y => z y.symm) (List.mergeSort_perm _ _)).mpr h1
  have h3 : (rowsQ c).Pairwise fun a b => decide (a.st ≤ b.st) = true := List.pairwise_mergeSort (le := fun a b : Row => decide (a.st ≤ b.st)) (fun a b c z y => decide_eq_true (Int.le_trans (of_decide_eq_true z) (of_decide_eq_true y))) (fun a b => by
    rcases Int.le_total a.st b.st with z | z
    · rw [decide_eq_true z]; rfl
    · rw [decide_eq_true z, Bool.or_true]) _
  refine (h2.and h3).imp fun {a b} z => ?_
  have := of_decide_eq_true z.2
  have := z.1
  omega
theorem drops_bp : ∀ {l : List Int} {k : Bk}, (k.drops l).b = k.b ∧ (k.drops l).p = k.p
  | [], _ => ⟨rfl, rfl⟩
  | n :: l, k => by
    have := drops_bp (l := l) (k := k.drop n)
    exact ⟨this.1.trans drop_b, this.2.trans drop_p⟩
theorem drops_stR : ∀ {l : List Int} {k : Bk}, (k.drops l).stamp = k.stamp
  | [], _ => rfl
  | n :: l, k => (drops_stR (l := l) (k := k.drop n)).trans drop_st
theorem bit_kept {v n : Int} (hv : 0 ≤ v ∧ v < 2 ^ 64) (hn : 0 ≤ n) : n ∈ keptV v ↔ bitZ v n = true := by
  unfold keptV zI shN bitZ
  rw [List.mem_map]
  constructor
  · rintro ⟨i, hi, e⟩
    have := (List.mem_filter.mp hi).2
    rw [← e, Int.toNat_natCast]
    exact this
  · intro h
    refine ⟨n.toNat, List.mem_filter.mpr ⟨List.mem_range.mpr ?_, h⟩, by omega⟩
    rcases Nat.lt_or_ge n.toNat 64 with z | z
    · exact z
    · rw [Nat.testBit_lt_two_pow (Nat.lt_of_lt_of_le (by omega : v.toNat < 2 ^ 64) (Nat.pow_le_pow_right (by decide) z))] at h
      cases h
theorem newBk_rb {b p : Int} {n : Nat} : Rb0 (List.replicate n none) (Bk.new b p) ∧ AllN (List.replicate n none) (Bk.new b p) ∧ Roll (List.replicate n none) (Bk.new b p) := by
  have no : ∀ i, ¬ wrC (List.replicate n none) i := fun i z => z (by rw [List.getD_eq_getElem?_getD, List.getElem?_replicate]; split <;> rfl)
  have rep : ∀ (a : Nat) (i : Nat), (List.replicate a (0 : Int)).getD i 0 = 0 := fun a i => by
    rw [List.getD_eq_getElem?_getD, List.getElem?_replicate]
    split <;> rfl
  refine ⟨⟨fun i h => absurd h (no i), fun i j h => absurd h (no i), .nil, (fun n pg h => by cases h), fun a j _ _ => ⟨fun h => absurd h (no _), fun h => ?_⟩, fun a _ => ?_, fun a j _ _ h => absurd h (no _), .inl ⟨rfl, no⟩⟩, fun i h => absurd h (no i), fun i h => absurd h (no i), (fun n pg rp h => by cases h)⟩
  · have h : (j : Int) < (List.replicate b.toNat (0 : Int)).getD a 0 := h
    rw [rep] at h
    omega
  · show (List.replicate b.toNat (0 : Int)).getD a 0 = if (List.replicate b.toNat (0 : Int)).getD a 0 = 0 then 0 else _
    rw [rep, if_pos rfl]
theorem MidR.roll {c : Ct} {k : Bk} {q1 : Pc} {k1 : Bk} {rest : List Row} {l : List Int} (M : MidR c k q1 k1 rest) (h : Rb0 q1.ct (k1.drops l)) : MidR c k q1 (k1.drops l) rest :=
  ⟨h, M.wf.drops, drops_bp.1.trans M.eb, drops_bp.2.trans M.ep, M.len, M.agr, M.cov, M.row, M.srt, by rw [drops_stR]; exact M.low⟩
theorem rebuild {q : Pc} {k : Bk} (w : Wf q k) (hc : Rb0 q.ct k) (hr : Roll q.ct k) (hst : k.stamp < 10 ^ 39) : bookR k.b k.p (rowsQ q.ct) = k := by
  have hl : (q.ct.length : Int) = k.b * k.p := by rw [w.ctl, w.kb, w.kp]
  have hbb := w.bk.b
  have hpp := w.bk.p
  have rep : ∀ i, (List.replicate q.ct.length (none : Option (Int × Int))).getD i none = none := fun i => by
    rw [List.getD_eq_getElem?_getD, List.getElem?_replicate]
    split <;> rfl
  obtain ⟨n1, n2, n3⟩ := newBk_rb (b := k.b) (p := k.p) (n := q.ct.length)
  have M0 : MidR q.ct k { q with ct := List.replicate q.ct.length none, b := k.b, p := k.p, clr := List.replicate k.b.toNat 0 } (Bk.new k.b k.p) (rowsQ q.ct) := by
    refine ⟨n1, Wf.new (m := q.m) (l := q.lasts) hbb hpp rfl rfl (by show List.replicate _ _ = _; congr 1; omega) (fun n => ?_), rfl, rfl, List.length_replicate, fun i h => absurd (rep i) h, fun i hi _ => ?_, fun r hr2 => ?_, rowsQ_srt hc, fun r hr2 => ?_⟩
    · show 0 ≤ (List.replicate k.b.toNat (0 : Int)).getD n 0 ∧ (List.replicate k.b.toNat (0 : Int)).getD n 0 ≤ (q.log.length : Int)
      rw [List.getD_eq_getElem?_getD, List.getElem?_replicate]
      split
      · exact ⟨Int.le_refl _, Int.natCast_nonneg _⟩
      · exact ⟨Int.le_refl _, Int.natCast_nonneg _⟩
    · cases e : rowC q.ct i with
      | none =>
        unfold rowC at e
        cases e2 : q.ct.getD i none with
        | none => exact absurd e2 hi
        | some x => rw [e2] at e; cases e
      | some r => exact ⟨r, rowsQ_mem.mpr ⟨i, e⟩, (rowC_some e).2.2.1⟩
    · obtain ⟨i, hi⟩ := rowsQ_mem.mp hr2
      exact ⟨i, hi, fun z => z (rep i)⟩
    · obtain ⟨i, hi⟩ := rowsQ_mem.mp hr2
      obtain ⟨w1, e1, _⟩ := rowC_some hi
      have := (hc.rng i w1).1
      show 1 ≤ r.st
      omega
  have fin : ∀ {q1 : Pc} {k1 : Bk}, MidR q.ct k q1 k1 [] → Roll q1.ct k1 → k1 = k := fun {q1 k1} M hR => by
    have ec : q1.ct = q.ct := by
      refine List.ext_getElem? fun i => ?_
      by_cases hi : i < q.ct.length
      · have : q1.ct.getD i none = q.ct.getD i none := by
          by_cases z : wrC q1.ct i
          · exact M.agr i z
          · by_cases y : wrC q.ct i
            · obtain ⟨r, hr2, _⟩ := M.cov i y z
              cases hr2
            · rw [Classical.not_not.mp z, Classical.not_not.mp y]
        have hl1 := M.len
        rw [List.getD_eq_getElem?_getD, List.getD_eq_getElem?_getD, List.getElem?_eq_getElem hi, List.getElem?_eq_getElem (by omega)] at this
        rw [List.getElem?_eq_getElem hi, List.getElem?_eq_getElem (by omega)]
        exact congrArg some this
      · have hl1 := M.len
        rw [List.getElem?_eq_none (by omega), List.getElem?_eq_none (by omega)]
    have h1 := M.rb
    rw [ec] at h1 hR
    exact (hc.uniq w M.wf M.eb M.ep hr h1 hR).symm
  have lo : ∀ r ∈ rowsQ q.ct, 1 ≤ r.st := fun r hr2 => M0.low r hr2
  unfold bookR
  rcases newR_split (rowsQ q.ct) 0 with ⟨z1, z2⟩ | ⟨pre, R, post, z1, z2, z3, z4⟩
  · rw [z2]
    have M0' : MidR q.ct k { q with ct := List.replicate q.ct.length none, b := k.b, p := k.p, clr := List.replicate k.b.toNat 0 } (Bk.new k.b k.p) (rowsQ q.ct ++ []) := by rw [List.append_nil]; exact M0
    obtain ⟨q2, M2, _, R2⟩ := foldA (N := 0) hc hl hst M0' fun r hr2 => by have := lo r hr2; omega
    exact fin M2 (R2 n3 z1)
  · rw [z4]
    rw [z1] at M0
    have srt := M0.srt
    rw [List.pairwise_append] at srt
    have srt2 := List.pairwise_cons.mp srt.2.1
    obtain ⟨q2, M2, A2, _⟩ := foldA (N := R.st) hc hl hst M0 fun r hr2 => by
      have := srt.2.2 r hr2 R List.mem_cons_self
      omega
    have A2 := A2 n2
    rw [z1, List.foldl_append, List.foldl_cons]
    generalize pre.foldl (stepR R.st) (Bk.new k.b k.p) = k2 at M2 A2
    obtain ⟨i, m, hi, P⟩ := M2.pl hc hl
    obtain ⟨q3, M3, c3⟩ := M2.step hc hst hi P
    obtain ⟨w1, e1, e2, e3, e4, e5⟩ := rowC_some hi
    have A3 : AllN q3.ct ((k2.at R.st).note R.pg R.nm) := by rw [c3, e2]; exact A2.put P
    obtain ⟨a1, a2, a3, a4⟩ := setC_at P
    have hNew : NewR q3.ct ((k2.at R.st).note R.pg R.nm) R.pg := by
      rw [e2, c3]
      refine ⟨by rw [noteA_wh, if_pos z2.symm], ?_⟩
      rw [Int.toNat_natCast, a2, noteA_st]
      omega
    have hv : vlC q3.ct R.pg.toNat = R.v := by rw [c3, e2, Int.toNat_natCast, a4]
    have hvr : 0 ≤ R.v ∧ R.v < 2 ^ 64 := ⟨P.vr.1, P.vr.2.2 z2⟩
    have es : stepR R.st k2 R = ((k2.at R.st).note R.pg R.nm).drops (cutN ((k2.at R.st).note R.pg R.nm) R.v) := if_pos rfl
    rw [es]
    generalize hk3 : (k2.at R.st).note R.pg R.nm = k3 at M3 A3 hNew
    have hcut : ∀ n, n ∈ cutN k3 R.v ↔ n ∈ heldL k3 ∧ n ∉ keptV R.v := fun n => by
      unfold cutN
      rw [List.mem_filter]
      simp
    obtain ⟨r1, r2⟩ := roll_of M3.rb hNew (l := cutN k3 R.v) (fun n hn => ((heldL_mem).mp ((hcut n).mp hn).1).2) (fun n pg hg hn => by
      have hrn := M3.wf.rng _ (getI_mem hg)
      rw [hv, hcut, bit_kept hvr hrn.1]
      constructor
      · intro z
        cases hb : bitZ R.v n with
        | true => exact absurd hb z.2
        | false => rfl
      · intro z
        exact ⟨heldL_mem.mpr ⟨⟨pg, getI_mem hg⟩, hn⟩, by rw [z]; decide⟩) (fun i hi hg => absurd hg (A3 i hi))
    have M4 := M3.roll r1
    have M4' : MidR q.ct k q3 (k3.drops (cutN k3 R.v)) (post ++ []) := by rw [List.append_nil]; exact M4
    obtain ⟨q5, M5, _, R5⟩ := foldA (N := R.st) hc hl hst M4' fun r hr2 => by
      have := srt2.1 r hr2
      omega
    exact fin M5 (R5 r2 z3)
/-! ### for a law with no store -/
def RbS (s : St) : Prop := Rb0 s.q.ct s.k ∧ Roll s.q.ct s.k
/-! ### coming up: the rows of a chip's pages -/
def rl (r : Row) : List Int := [r.st, r.pg, r.nm, r.v]
def ur (l : List Int) : Row := ⟨l.getD 0 0, l.getD 1 0, l.getD 2 0, l.getD 3 0⟩
structure RowOk (q : Pc) : Prop where
  n : (rowsC q.ct).length < 64
  rng : ∀ i e, q.ct.getD i none = some e → 0 ≤ e.1 ∧ e.1 < 10 ^ 42 ∧ 0 ≤ e.2 ∧ e.2 < 10 ^ 31
  inj : ∀ i j, wrC q.ct i → wrC q.ct j → stC q.ct i = stC q.ct j → i = j
  len : (q.ct.length : Int) = q.b * q.p
theorem rows_inj {c : Ct} (inj : ∀ i j, wrC c i → wrC c j → stC c i = stC c j → i = j) : (rowsC c).Pairwise fun a b => a.st ≠ b.st := by
  unfold rowsC
  refine List.pairwise_filterMap.mpr (List.Pairwise.imp (fun {i j} hij a ha b hb e => ?_) List.nodup_range)
  obtain ⟨w1, e1, _⟩ := rowC_some ha
  obtain ⟨w2, e2, _⟩ := rowC_some hb
  exact hij (inj i j w1 w2 (by rw [← e1, ← e2]; exact e))
theorem rowOk_row {q : Pc} (h : RowOk q) {r : Row} (hr : r ∈ rowsC q.ct) : (0 ≤ r.st ∧ r.st < 10 ^ 41) ∧ (0 ≤ r.pg ∧ r.pg < q.b * q.p) ∧ (0 ≤ r.nm ∧ r.nm < 128) ∧ (0 ≤ r.v ∧ r.v < 10 ^ 31) := by
  unfold rowsC at hr
  obtain ⟨i, hi, e⟩ := List.mem_filterMap.mp hr
  have hi := List.mem_range.mp hi
  have hl := h.len
  obtain ⟨w, e1, e2, e3, e4, e5⟩ := rowC_some e
  have := h.rng i _ e5
  unfold mk at this
  unfold nmC at e3
  dsimp only at this
  omega
theorem rl_bd {q : Pc} (h : RowOk q) (hbp : q.b * q.p ≤ 256) : ∀ e ∈ (rowsC q.ct).map rl, e.length = 4 ∧ TS.Bd (10 ^ 50) e := fun e he => by
  obtain ⟨r, hr, rfl⟩ := List.mem_map.mp he
  refine ⟨rfl, fun m hm => ?_⟩
  have := rowOk_row h hr
  unfold rl at hm
  simp only [List.mem_cons, List.not_mem_nil, or_false] at hm
  rcases hm with rfl | rfl | rfl | rfl <;> omega
theorem RowOk.sorted {q : Pc} (h : RowOk q) (hbp : q.b * q.p ≤ 256) {ls : List (List Int)} (hp : ls.Perm ((rowsC q.ct).map rl)) (hs : ls.Pairwise fun a b => TS.code (10 ^ 50) a ≤ TS.code (10 ^ 50) b) : ls = (rowsQ q.ct).map rl := by
  have bd : ∀ e ∈ ls, (∃ r, e = rl r) ∧ TS.Bd (10 ^ 50) e := fun e he => by
    have hm := hp.mem_iff.mp he
    obtain ⟨r, hr, rfl⟩ := List.mem_map.mp hm
    exact ⟨⟨r, rfl⟩, (rl_bd h hbp _ hm).2⟩
  have e1 : (ls.map ur).map rl = ls := by
    rw [List.map_map]
    refine (List.map_congr_left fun e he => ?_).trans (List.map_id ls)
    obtain ⟨⟨r, rfl⟩, _⟩ := bd e he
    rfl
  have p1 : (ls.map ur).Perm (rowsQ q.ct) := by
    have := hp.map ur
    rw [List.map_map, show ur ∘ rl = id from rfl, List.map_id] at this
    exact this.trans (List.mergeSort_perm _ _).symm
  have s1 : (ls.map ur).Pairwise fun a b => a.st ≤ b.st := by
    refine List.pairwise_map.mpr (List.Pairwise.imp_of_mem (fun {a b} ha hb z => ?_) hs)
    obtain ⟨⟨r, rfl⟩, b1⟩ := bd a ha
    obtain ⟨⟨r', rfl⟩, b2⟩ := bd b hb
    show r.st ≤ r'.st
    have := code_cons (B := 10 ^ 50) (d := r.st) (e := r'.st) (r := [r.pg, r.nm, r.v]) (q := [r'.pg, r'.nm, r'.v]) rfl b1 b2 z
    omega
  have ne := rows_inj h.inj
  have n1 : (ls.map ur).Pairwise fun a b => a.st ≠ b.st := (List.Perm.pairwise_iff (fun {a b} z y => z y.symm) (p1.trans (List.mergeSort_perm _ _))).mpr ne
  have n2 : (rowsQ q.ct).Pairwise fun a b => a.st ≠ b.st := (List.Perm.pairwise_iff (fun {a b} z y => z y.symm) (List.mergeSort_perm _ _)).mpr ne
  have s2 : (rowsQ q.ct).Pairwise fun a b => decide (a.st ≤ b.st) = true := List.pairwise_mergeSort (le := fun a b : Row => decide (a.st ≤ b.st)) (fun a b c z y => decide_eq_true (Int.le_trans (of_decide_eq_true z) (of_decide_eq_true y))) (fun a b => by
    rcases Int.le_total a.st b.st with z | z
    · rw [decide_eq_true z]; rfl
    · rw [decide_eq_true z, Bool.or_true]) _
  rw [← e1]
  congr 1
  refine List.Perm.eq_of_pairwise (le := fun a b : Row => a.st < b.st) (fun a b _ _ h1 h2 => by omega) ((s1.and n1).imp fun {a b} z => by omega) ((s2.and n2).imp fun {a b} z => ?_) p1
  have := of_decide_eq_true z.1
  have := z.2
  omega
theorem rowsC_take {c : Ct} {i : Nat} : (List.range (i + 1)).filterMap (rowC c) = (List.range i).filterMap (rowC c) ++ (match rowC c i with
    | none => []
    | some r => [r]) := by
  rw [List.range_succ, List.filterMap_append]
  congr 1
  cases h : rowC c i with
  | none => rw [List.filterMap_cons_none h]; rfl
  | some r => rw [List.filterMap_cons_some h]; rfl
local macro_rules | `(tactic| walk_at "u") => `(tactic| ((with_reducible refine' x_appO ?ho ?_ ?hl); (case ho => walk_at "hp"); (try (case hl => walk_at "side")); intro H1 hO hI; (try dsimp only)))
def spRows (T : Txt K mg) : Sp := fun vs H Q E => ∃ (r : Addr) (F : CF) (q : Pc), vs = [.ref r] ∧ ChipP T.C_Chip H r F q ∧ RowOk q ∧ (q.dark = true → ∀ H', Same H H' → E (.ref T.C_PowerGone) none H') ∧ (q.dark = false → ∀ p ys H', Same H H' → H p = none → H' p = some (.lst ys) → TupL H' ys ((rowsQ q.ct).map rl) → Q (.ref p) H')
theorem ok_rows_by_stamp (T : Txt K mg) : FO P w K mg base 5 T.a_rows_by_stamp T.fd_rows_by_stamp ["chip"] (spRows T) := by
  have sc := sc_rows_by_stamp
  refine T.F_rows_by_stamp.okX sc (fun vs H Q E h => ?_) (fun cdv A outer s H vs Q E hr h => ?_)
  · obtain ⟨_, _, _, rfl, _⟩ := h
    rfl
  obtain ⟨r, F, q, rfl, hC, hR, q1, q2⟩ := h
  refine ⟨_, (pss_cons (ps_set (i := 1) sc.nd rfl (by first | exact Or.inl rfl | exact Or.inr rfl) (pe_lst pa_nil))
      (pss_cons (ps_for (passes_of rfl) rfl (pi_range1 (by rfl) T.b_range (pa_cons (pe_op op_uMul (pe_fld (pv 0) rfl) (pe_fld (pv 0) rfl)) pa_nil)) (pg_name (i := 2) sc.nd rfl (by first | exact Or.inl rfl | exact Or.inr rfl)) (pss_cons (ps_set (i := 3) sc.nd rfl (by first | exact Or.inl rfl | exact Or.inr rfl) (pe_methD (k := 4) (pv 0) (hr.mono (by decide)) (passAt (takes_of rfl rfl rfl rfl)) (pa_cons (pv 2) pa_nil)))
      (pss_one (ps_if (pt_cmpR op_uIsNot (pv 3) pe_non (nomark _)) (pss_one (ps_expr (pe_bm PySem.F.plainAttrs_list PySem.F.slot_list_append PySem.F.type_list_append mt_append (pv 1) (pa_cons (pe_tup (pa_cons (pe_callS (ok_stamp_of T) (hr.mono (by decide)) (by rfl) T.g_stamp_of T.k_stamp_of T.bd_stamp_of (passAt (takes_of rfl rfl rfl rfl)) (pa_cons (pe_ix ix_seq (pv 3) pe_int (fun _ _ => rfl)) pa_nil)) (pa_cons (pv 2) (pa_cons (pe_callS (ok_name_of T) (hr.mono (by decide)) (by rfl) T.g_name_of T.k_name_of T.bd_name_of (passAt (takes_of rfl rfl rfl rfl)) (pa_cons (pe_ix ix_seq (pv 3) pe_int (fun _ _ => rfl)) pa_nil)) (pa_cons (pe_ix ix_seq (pv 3) pe_int (fun _ _ => rfl)) pa_nil))))) pa_nil)))) pss_nil))))
      (pss_one (ps_ret (pe_callB (cr_sortT (d := 4) (B := 10 ^ 50) (by decide)) (by rfl) T.b_sorted bt_sorted (pa_cons (pv 1) pa_nil)))))), ?_⟩
  obtain ⟨st, hC, hst⟩ := hC
  have ho := hC.obj
  unfold chipF Pc.toC at ho
  dsimp only at ho
  have hsz := hC.sz
  have hb : 2 ≤ q.b ∧ q.b ≤ 16 := hsz.b
  have hp : 1 ≤ q.p ∧ q.p ≤ 16 := hsz.p
  have hbp : q.b * q.p ≤ 16 * 16 := Int.mul_le_mul hb.2 hp.2 (by omega) (by decide)
  have hb0 : 0 ≤ q.b * q.p := Int.mul_nonneg (by omega) (by omega)
  have h2bp : 2 * 1 ≤ q.b * q.p := Int.mul_le_mul hb.1 hp.1 (by decide) (by omega)
  have hlen := hR.len
  have hll : ∀ i, ((List.range i).filterMap (rowC q.ct)).length ≤ i := fun i => Nat.le_trans (List.length_filterMap_le _ _) (by rw [List.length_range]; exact Nat.le_refl _)
  walk_at "begin"
  walk_at "go"
  rename_i p H1 hp1 hs1 hn1
  refine x_seq ?_
  walk_at "go"
  refine x_frR1 (j := q.b * q.p) (by omega) (fun i σ H' => ∃ (v2 v3 : Option V) (ys : List V), σ = [some (.ref r), some (.ref p), v2, v3] ∧ Same H H' ∧ H' p = some (.lst ys) ∧ TupL H' ys (((List.range i).filterMap (rowC q.ct)).map rl) ∧ (0 < i → q.dark = false)) ⟨_, _, [], rfl, hs1, hn1, TupL.nil, fun z => absurd z (Nat.lt_irrefl 0)⟩ ?_ ?_
  · intro i σ H2 hi ⟨v2, v3, ys, hσ, hs2, hn2, ht2, hdk⟩
    subst hσ
    have hi2 : (i : Int) < q.b * q.p := by omega
    have hC2 := hC.mono hs2
    have hst2 := hst.mono (TupS.of hs2)
    walk_at "go"
    refine x_mRead hC2 ?_
    walk_at "go"
    refine ⟨r, F, _, _, some (0 + (i : Int)), rfl, hC2, .int _, (fun z => by simp [inB] at z; have : (q.toC st).b * (q.toC st).p = q.b * q.p := rfl; omega), (fun _ hd => q1 hd H2 hs2), fun _ hd => ?_⟩
    have ei : (0 + (i : Int)).toNat = i := by omega
    have ev : (q.toC st).stuff.getD ((some (0 + (i : Int))).getD 0).toNat .non = st.getD i .non := by show st.getD (0 + (i : Int)).toNat .non = _; rw [ei]
    rw [ev]
    have hil : i < st.length := by have := hst.1; omega
    rcases hst2.2 i hil with ⟨c1, c2⟩ | ⟨a, m, x, c1, c2, c3⟩
    · rw [c2]
      walk_at "go"
      have er : rowC q.ct i = none := by unfold rowC; rw [c1]; rfl
      refine ⟨_, _, ys, rfl, hs2, hn2, ?_, fun _ => hd⟩
      rw [rowsC_take, er, List.append_nil]
      exact ht2
    · rw [c2]
      have hm := hR.rng i (m, x) c1
      dsimp only at hm
      have er : rowC q.ct i = some ⟨m / 128, (i : Int), m % 128, x⟩ := by unfold rowC; rw [c1]; rfl
      have hyl : ys.length < sizeLine := Nat.lt_of_le_of_lt (show _ ≤ 300 by have := ht2.1; rw [List.length_map] at this; have := hll i; omega) (by decide)
      walk_at "go"
      rw [if_neg (by rw [show decide (V.ref a = V.non) = false from decide_eq_false fun z => by cases z]; decide)]
      walk_at "go"
      rename_i t1 H3 ht1 hs3 hn3 H4 hO hI
      refine ⟨_, _, _, rfl, Off.same1 (hs2.trans hs3) hO hp1, hI, ?_, fun _ => hd⟩
      rw [rowsC_take, er, List.map_append]
      have tt : TupS H2 H4 := (TupS.of hs3).trans (hO.tupsL (hs3 _ _ hn2))
      have ht := hO.at hn3 (fun z => by rw [List.mem_singleton.mp z, hn2] at ht1; cases ht1)
      rw [Int.zero_add] at ht
      exact (ht2.mono tt).snoc ⟨t1, rfl, ht⟩
  · intro σ H2 ⟨v2, v3, ys, hσ, hs2, hn2, ht2, hdk⟩
    subst hσ
    have eN : (q.b * q.p).toNat = q.ct.length := by omega
    rw [eN] at ht2
    walk_at "go"
    refine x_sortT (SqL.of hn2) ht2 (by rw [List.length_map]; exact hR.n) (rl_bd hR (by omega)) fun p2 ys2 ls H3 hp3 hs3 hn3 ht3 hperm hsrt => ?_
    rw [hR.sorted (by omega) hperm hsrt] at ht3
    exact q2 (hdk (by omega)) p2 ys2 H3 (hs2.trans hs3) (same_none hs2 hp3) hn3 ht3
theorem x_rows {T : Txt K mg} {H : Hp} {Q : VK} {E : XK} {r : Addr} {F : CF} {q : Pc} (hC : ChipP T.C_Chip H r F q) (hR : RowOk q) (q1 : q.dark = true → ∀ H', Same H H' → E (.ref T.C_PowerGone) none H') (q2 : q.dark = false → ∀ p ys H', Same H H' → H p = none → H' p = some (.lst ys) → TupL H' ys ((rowsQ q.ct).map rl) → Q (.ref p) H') : spRows T [.ref r] H Q E := ⟨r, F, q, rfl, hC, hR, q1, q2⟩
def spRollSt (K : PySem.W.Frag) : Sp := fun vs H Q _ => ∃ (a : Addr) (ys : List V) (rows : List Row), vs = [.ref a] ∧ SqL K H a ys ∧ TupL H ys (rows.map rl) ∧ Q (.int (newR 0 rows)) H
theorem newR_take {rows : List Row} {i : Nat} {r : Row} (h : rows[i]? = some r) : newR 0 (rows.take (i + 1)) = if r.nm = 64 then r.st else newR 0 (rows.take i) := by
  rw [List.take_add_one, h]
  unfold newR
  rw [List.foldl_append]
  rfl
theorem rows_get {H : Hp} {ys : List V} {rows : List Row} (h : TupL H ys (rows.map rl)) {i : Nat} {y : V} (hy : ys[i]? = some y) : ∃ (r : Row) (t : Addr), rows[i]? = some r ∧ y = .ref t ∧ H t = some (.tup [.int r.st, .int r.pg, .int r.nm, .int r.v]) := by
  obtain ⟨e, t, h1, h2, h3⟩ := h.get hy
  rw [List.getElem?_map] at h1
  cases e2 : rows[i]? with
  | none => rw [e2] at h1; cases h1
  | some r =>
    rw [e2] at h1
    cases h1
    exact ⟨r, t, rfl, h2, h3⟩
theorem ok_stamp_of_roll (T : Txt K mg) : FO P w K mg base 1 T.a_stamp_of_roll T.fd_stamp_of_roll ["rows"] (spRollSt K) := by
  have sc := sc_stamp_of_roll
  refine T.F_stamp_of_roll.okX sc (fun vs H Q E h => ?_) (fun cdv A outer s H vs Q E hr h => ?_)
  · obtain ⟨_, _, _, rfl, _⟩ := h
    rfl
  obtain ⟨a, ys, rows, rfl, hS, hT, q⟩ := h
  refine ⟨_, (pss_cons (ps_set (i := 1) sc.nd rfl (by first | exact Or.inl rfl | exact Or.inr rfl) pe_int)
      (pss_cons (ps_for (passes_of rfl) rfl (pi_list (pv 0)) (pg_tup (by rfl) (pgs_cons (pg_name (i := 2) sc.nd rfl (by first | exact Or.inl rfl | exact Or.inr rfl)) (pgs_cons (pg_name (i := 3) sc.nd rfl (by first | exact Or.inl rfl | exact Or.inr rfl)) (pgs_cons (pg_name (i := 4) sc.nd rfl (by first | exact Or.inl rfl | exact Or.inr rfl)) (pgs_cons (pg_name (i := 5) sc.nd rfl (by first | exact Or.inl rfl | exact Or.inr rfl)) pgs_nil))))) (pss_one (ps_if (pt_cmpR (op_uEq hr.units) (pv 4) (pe_glob rfl T.g_ROLL T.r_ROLL) (nomark _)) (pss_one (ps_set (i := 1) sc.nd rfl (by first | exact Or.inl rfl | exact Or.inr rfl) (pv 2))) pss_nil)))
      (pss_one (ps_ret (pv 1))))), ?_⟩
  have hrl : ys.length = rows.length := by have := hT.1; rw [List.length_map] at this; exact this
  walk_at "begin"
  walk_at "go"
  refine x_seq ?_
  walk_at "go"
  refine x_frL hS (fun i σ H' => H' = H ∧ ∃ (v2 v3 v4 v5 : Option V), σ = [some (.ref a), some (.int (newR 0 (rows.take i))), v2, v3, v4, v5]) ⟨rfl, _, _, _, _, rfl⟩ (fun i σ H' _ h => by rw [h.1]; exact hS) ?_ ?_
  · intro i y σ H' hy ⟨hH, v2, v3, v4, v5, hσ⟩
    subst hσ hH
    obtain ⟨r, t, e1, rfl, ht⟩ := rows_get hT hy
    rw [newR_take e1]
    refine x_gtup4 (SqT.of ht) ?_
    dsimp only [List.set]
    walk_at "go"
    by_cases h64 : r.nm = 64
    · rw [if_pos (decide_eq_true h64), if_pos h64]
      walk_at "go"
      exact ⟨rfl, _, _, _, _, rfl⟩
    · rw [if_neg (by rw [decide_eq_false h64]; decide), if_neg h64]
      walk_at "go"
      exact ⟨rfl, _, _, _, _, rfl⟩
  · intro σ H' ⟨hH, v2, v3, v4, v5, hσ⟩
    subst hσ hH
    rw [hrl, List.take_length]
    walk_at "go"
    exact q
/-! ### the book of a chip -/
def spStartAt (T : Txt K mg) : Sp := fun vs H Q _ => ∃ (r : Addr) (F : BF) (k : Bk) (x : Int), vs = [.ref r, .int x] ∧ BookAt T.C_Book H r F k ∧ ∀ H', Off (F.all r) H H' → BookAt T.C_Book H' r F (k.at x) → Q .non H'
theorem ok_Book_start_at (T : Txt K mg) : FO P w K mg base 1 T.a_Book_start_at T.fd_Book_start_at ["self", "stamp"] (spStartAt T) := by
  have sc := sc_Book_start_at
  refine T.F_Book_start_at.okX sc (fun vs H Q E h => ?_) (fun cdv A outer s H vs Q E hr h => ?_)
  · obtain ⟨_, _, _, _, rfl, _⟩ := h
    rfl
  obtain ⟨r, F, k, x, rfl, hB, q⟩ := h
  refine ⟨_, (pss_one (ps_fld (pv 0) (pv 1) rfl)), ?_⟩
  have ho := hB.obj
  walk_at "begin"
  walk_at "go"
  refine x_sfO (fs' := bookF F (k.at x)) ho rfl (fun H1 hO hI => ?_) T.cl_Book T.na_Book_stamp (Nat.le_of_ble_eq_true rfl)
  walk_at "go"
  obtain ⟨⟨n1, n2, n3, n4, n5⟩, _⟩ := hB.ne
  exact q H1 (hO.sub fun b hb => by rw [List.mem_singleton.mp hb]; simp [BF.all]) ⟨hI, hO.at hB.wh (nin_of n1.symm), hO.at hB.nm (nin_of n2.symm), hO.at hB.lv (nin_of n3.symm), hO.at hB.fl (nin_of n4.symm), hO.at hB.bn (nin_of n5.symm), hB.nd⟩
theorem x_mStart {T : Txt K mg} {H : Hp} {Q : VK} {E : XK} {σ : L2.St} {r : Addr} {F : BF} {k : Bk} {t : TA} (hB : BookAt T.C_Book H r F k) (h : t σ H fun vs H2 => spStartAt T (.ref r :: vs) H2 Q E) : mtK P w K mg base (L2.CX P w) 1 "start_at" E σ t Q (.ref r) H :=
  x_mtK hB.obj ⟨⟨_, _, _, T.cl_Book, T.m_Book_start_at, ok_Book_start_at T, T.bd_Book_start_at⟩⟩ rfl h
structure RwOk (b p : Int) (rows : List Row) : Prop where
  n : rows.length < 64
  r : ∀ r ∈ rows, (0 ≤ r.st ∧ r.st < 10 ^ 39) ∧ (0 ≤ r.pg ∧ r.pg < b * p) ∧ (r.st = newR 0 rows → 0 ≤ r.v ∧ r.v < 2 ^ 64)
theorem drops_ok : ∀ {l : List Int} {k : Bk}, BkOk k → BkOk (k.drops l) ∧ (k.drops l).wh.length ≤ k.wh.length
  | [], k, h => ⟨h, Nat.le_refl _⟩
  | n :: l, k, h => by
    obtain ⟨a, b⟩ := drops_ok (l := l) (h.drop n)
    exact ⟨a, Nat.le_trans b drop_whl⟩
theorem at_ok {k : Bk} {x : Int} (h : BkOk k) (h0 : 0 ≤ x ∧ x < 10 ^ 40) : BkOk (k.at x) := ⟨h.b, h.p, h.nm, h.live, h.fil, h.born, h.wh, h.whl, h0⟩
theorem note_ok {b p : Int} {k : Bk} {r : Row} {i : Nat} (h : BkOk k ∧ k.wh.length ≤ i ∧ k.b = b ∧ k.p = p) (hi : i < 64) (hr : (0 ≤ r.st ∧ r.st < 10 ^ 39) ∧ (0 ≤ r.pg ∧ r.pg < b * p)) : BkOk ((k.at r.st).note r.pg r.nm) ∧ ((k.at r.st).note r.pg r.nm).wh.length ≤ i + 1 ∧ ((k.at r.st).note r.pg r.nm).b = b ∧ ((k.at r.st).note r.pg r.nm).p = p := by
  obtain ⟨h1, h2, h3, h4⟩ := h
  have hw : (k.at r.st).wh.length = k.wh.length := rfl
  refine ⟨(at_ok h1 ⟨hr.1.1, by omega⟩).note hr.2.1 (by show r.pg < k.b * k.p; rw [h3, h4]; exact hr.2.2) (by omega) (by show r.st + 1 < _; omega), ?_, noteA_bp.1.trans h3, noteA_bp.2.trans h4⟩
  have := note_whl (k := k.at r.st) (pg := r.pg) (n := r.nm)
  omega
theorem step_ok {b p N : Int} {k : Bk} {r : Row} {i : Nat} (h : BkOk k ∧ k.wh.length ≤ i ∧ k.b = b ∧ k.p = p) (hi : i < 64) (hr : (0 ≤ r.st ∧ r.st < 10 ^ 39) ∧ (0 ≤ r.pg ∧ r.pg < b * p)) : BkOk (stepR N k r) ∧ (stepR N k r).wh.length ≤ i + 1 ∧ (stepR N k r).b = b ∧ (stepR N k r).p = p := by
  have n := note_ok h hi hr
  unfold stepR
  split
  · obtain ⟨a1, a2⟩ := drops_ok (l := cutN ((k.at r.st).note r.pg r.nm) r.v) n.1
    exact ⟨a1, by omega, drops_bp.1.trans n.2.2.1, drops_bp.2.trans n.2.2.2⟩
  · exact n
theorem fold_take {N : Int} {rows : List Row} {k : Bk} {i : Nat} {r : Row} (h : rows[i]? = some r) : (rows.take (i + 1)).foldl (stepR N) k = stepR N ((rows.take i).foldl (stepR N) k) r := by
  rw [List.take_add_one, h, List.foldl_append]
  rfl
theorem drops_snoc {l : List Int} {n : Int} : ∀ {k : Bk}, k.drops (l ++ [n]) = (k.drops l).drop n := fun {k} => by
  unfold Bk.drops
  rw [List.foldl_append]
  rfl
def spBookOf (T : Txt K mg) : Sp := fun vs H Q E => ∃ (r : Addr) (F : CF) (q : Pc), vs = [.ref r] ∧ ChipP T.C_Chip H r F q ∧ RowOk q ∧ RwOk q.b q.p (rowsQ q.ct) ∧ (q.dark = true → ∀ H', Same H H' → E (.ref T.C_PowerGone) none H') ∧
  (q.dark = false → ∀ rb fb H', Same H H' → (∀ a ∈ BF.all fb rb, H a = none) → BookAt T.C_Book H' rb fb (bookR q.b q.p (rowsQ q.ct)) → Q (.ref rb) H')
theorem ok_book_of (T : Txt K mg) : FO P w K mg base 6 T.a_book_of T.fd_book_of ["chip"] (spBookOf T) := by
  have sc := sc_book_of
  refine T.F_book_of.okX sc (fun vs H Q E h => ?_) (fun cdv A outer s H vs Q E hr h => ?_)
  · obtain ⟨_, _, _, rfl, _⟩ := h
    rfl
  obtain ⟨r, F, q, rfl, hC, hR, hW, q1, q2⟩ := h
  refine ⟨_, (pss_cons (ps_set (i := 1) sc.nd rfl (by first | exact Or.inl rfl | exact Or.inr rfl) (pe_mkS T.mk_Book (ok_Book_init T) (hr.mono (by decide)) (by rfl) T.g_Book T.bd_Book_init .nil (passAt (takes_of rfl rfl rfl rfl)) (pa_cons (pe_fld (pv 0) rfl) (pa_cons (pe_fld (pv 0) rfl) pa_nil))))
      (pss_cons (ps_set (i := 2) sc.nd rfl (by first | exact Or.inl rfl | exact Or.inr rfl) (pe_callS (ok_rows_by_stamp T) (hr.mono (by decide)) (by rfl) T.g_rows_by_stamp T.k_rows_by_stamp T.bd_rows_by_stamp (passAt (takes_of rfl rfl rfl rfl)) (pa_cons (pv 0) pa_nil)))
      (pss_cons (ps_set (i := 3) sc.nd rfl (by first | exact Or.inl rfl | exact Or.inr rfl) (pe_callS (ok_stamp_of_roll T) (hr.mono (by decide)) (by rfl) T.g_stamp_of_roll T.k_stamp_of_roll T.bd_stamp_of_roll (passAt (takes_of rfl rfl rfl rfl)) (pa_cons (pv 2) pa_nil)))
      (pss_cons (ps_for (passes_of rfl) rfl (pi_list (pv 2)) (pg_tup (by rfl) (pgs_cons (pg_name (i := 4) sc.nd rfl (by first | exact Or.inl rfl | exact Or.inr rfl)) (pgs_cons (pg_name (i := 5) sc.nd rfl (by first | exact Or.inl rfl | exact Or.inr rfl)) (pgs_cons (pg_name (i := 6) sc.nd rfl (by first | exact Or.inl rfl | exact Or.inr rfl)) (pgs_cons (pg_name (i := 7) sc.nd rfl (by first | exact Or.inl rfl | exact Or.inr rfl)) pgs_nil))))) (pss_cons (ps_expr (pe_methD (k := 1) (pv 1) (hr.mono (by decide)) (passAt (takes_of rfl rfl rfl rfl)) (pa_cons (pv 4) pa_nil)))
      (pss_cons (ps_expr (pe_methD (k := 2) (pv 1) (hr.mono (by decide)) (passAt (takes_of rfl rfl rfl rfl)) (pa_cons (pv 5) (pa_cons (pv 6) pa_nil))))
      (pss_one (ps_if (pt_cmpR (op_uEq hr.units) (pv 4) (pv 3) (nomark _)) (pss_cons (ps_set (i := 8) sc.nd rfl (by first | exact Or.inl rfl | exact Or.inr rfl) (pe_callS (ok_sheets_of T) (hr.mono (by decide)) (by rfl) T.g_sheets_of T.k_sheets_of T.bd_sheets_of (passAt (takes_of rfl rfl rfl rfl)) (pa_cons (pv 7) pa_nil)))
      (pss_one (ps_for (passes_of rfl) rfl (pi_list (pe_methD0 (k := 2) (pv 1) (hr.mono (by decide)) (passAt (takes_of rfl rfl rfl rfl)))) (pg_name (i := 9) sc.nd rfl (by first | exact Or.inl rfl | exact Or.inr rfl)) (pss_one (ps_if (pt_cmpR op_uNotIn (pv 9) (pv 8) (by rfl)) (pss_one (ps_expr (pe_methD (k := 1) (pv 1) (hr.mono (by decide)) (passAt (takes_of rfl rfl rfl rfl)) (pa_cons (pv 9) pa_nil)))) pss_nil))))) pss_nil)))))
      (pss_one (ps_ret (pv 1))))))), ?_⟩
  obtain ⟨st, hC0, hst⟩ := hC
  have hC : ChipP T.C_Chip H r F q := ⟨st, hC0, hst⟩
  have ho := hC0.obj
  unfold chipF Pc.toC at ho
  dsimp only at ho
  have hsz := hC0.sz
  have hb : 2 ≤ q.b ∧ q.b ≤ 16 := hsz.b
  have hp : 1 ≤ q.p ∧ q.p ≤ 16 := hsz.p
  walk_at "begin"
  walk_at "go"
  rename_i x dxb H1 hx hdx hne hs1 hn1 hdd
  refine ⟨x, dxb, q.b, q.p, rfl, hn1, hb, hp, fun fb H2 hO2 hF2 hB2 => ⟨rfl, ?_⟩⟩
  have s02 : Same H H2 := Off.same1 hs1 hO2 hx
  have nB : ∀ a ∈ BF.all fb x, H a = none := fun a ha => by
    by_cases e : a = x
    · rw [e]; exact hx
    · exact same_none hs1 (hF2 a ha e)
  clear hO2 hn1 hdd hs1
  walk_at "go"
  refine x_rows (hC.mono s02) hR (fun hd H3 hs3 => q1 hd H3 (s02.trans hs3)) fun hd p ys H3 hs3 hp3 hn3 hT3 => ?_
  have s03 := s02.trans hs3
  have hB3 := hB2.mono hs3
  walk_at "go"
  refine ⟨p, ys, _, rfl, SqL.of hn3, hT3, ?_⟩
  walk_at "go"
  refine x_seq ?_
  walk_at "go"
  have hpB : p ∉ BF.all fb x := hB2.fresh hp3
  have hyl : ys.length = (rowsQ q.ct).length := by have := hT3.1; rw [List.length_map] at this; exact this
  refine x_frL (SqL.of hn3) (fun i σ H' => ∃ (v4 v5 v6 v7 v8 v9 : Option V), σ = [some (.ref r), some (.ref x), some (.ref p), some (.int (newR 0 (rowsQ q.ct))), v4, v5, v6, v7, v8, v9] ∧ Off (BF.all fb x) H3 H' ∧ BookAt T.C_Book H' x fb (((rowsQ q.ct).take i).foldl (stepR (newR 0 (rowsQ q.ct))) (Bk.new q.b q.p)) ∧
      (BkOk (((rowsQ q.ct).take i).foldl (stepR (newR 0 (rowsQ q.ct))) (Bk.new q.b q.p)) ∧ (((rowsQ q.ct).take i).foldl (stepR (newR 0 (rowsQ q.ct))) (Bk.new q.b q.p)).wh.length ≤ i ∧ (((rowsQ q.ct).take i).foldl (stepR (newR 0 (rowsQ q.ct))) (Bk.new q.b q.p)).b = q.b ∧ (((rowsQ q.ct).take i).foldl (stepR (newR 0 (rowsQ q.ct))) (Bk.new q.b q.p)).p = q.p))
    ⟨_, _, _, _, _, _, rfl, Off.refl, hB3, Bk.new_ok hb hp, Nat.le_refl 0, rfl, rfl⟩ (fun i σ H' _ h => by obtain ⟨_, _, _, _, _, _, _, hO, _⟩ := h; exact SqL.of (hO.at hn3 hpB)) ?_ ?_
  · intro i y σ H4 hy ⟨v4, v5, v6, v7, v8, v9, hσ, hO4, hB4, hk4⟩
    subst hσ
    have tt4 : TupS H3 H4 := tups_of (fun a ha => hB3.there a ha) hO4
    obtain ⟨rw, t, e1, rfl, ht⟩ := rows_get hT3 hy
    have ht4 := tt4 _ _ ht
    have hil := (List.getElem?_eq_some_iff.mp e1).1
    have hn64 := hW.n
    obtain ⟨w1, w2, w3⟩ := hW.r rw (List.mem_of_getElem? e1)
    have hnext := step_ok (N := newR 0 (rowsQ q.ct)) hk4 (by omega) ⟨w1, w2⟩
    have hnote := note_ok hk4 (by omega) ⟨w1, w2⟩
    rw [fold_take e1]
    generalize ((rowsQ q.ct).take i).foldl (stepR (newR 0 (rowsQ q.ct))) (Bk.new q.b q.p) = k at hB4 hk4 hnext hnote ⊢
    generalize hN : newR 0 (rowsQ q.ct) = N at hnext w3 ⊢
    refine x_gtup4 (SqT.of ht4) ?_
    dsimp only [List.set]
    walk_at "go"
    refine x_mStart hB4 ?_
    walk_at "go"
    refine ⟨x, fb, k, rw.st, rfl, hB4, fun H5 hO5 hB5 => ?_⟩
    have o5 := hO4.trans hO5
    clear hO5
    walk_at "go"
    refine x_mNote hB5 ?_
    walk_at "go"
    refine ⟨x, fb, _, rw.pg, rw.nm, rfl, hB5, at_ok hk4.1 ⟨w1.1, by omega⟩, w2.1, by show rw.pg < k.b * k.p; rw [hk4.2.2.1, hk4.2.2.2]; exact w2.2, fun H6 hO6 hB6 => ?_⟩
    have o6 := o5.trans hO6
    clear hO6 o5 hO4
    generalize hk2 : (k.at rw.st).note rw.pg rw.nm = k2 at hB6 hnote
    walk_at "go"
    have es : stepR N k rw = if rw.st = N then k2.drops (cutN k2 rw.v) else k2 := by unfold stepR; rw [hk2]
    rw [es] at hnext ⊢
    by_cases hz : rw.st = N
    · rw [if_pos (decide_eq_true hz), if_pos hz]
      rw [if_pos hz] at hnext
      have hv := w3 hz
      have o6' := o6
      clear o6
      walk_at "go"
      refine ⟨rw.v.toNat, by rw [Int.toNat_of_nonneg hv.1], by omega, fun p7 H7 hs7 hp7 hn7 => ?_⟩
      have hB7 := hB6.mono hs7
      walk_at "go"
      refine x_mBHeld hB7 hnote.1 fun p8 H8 hs8 hp8 hn8 => ?_
      have hB8 := hB7.mono hs8
      have n7 : p7 ∉ BF.all fb x := hB6.fresh hp7
      have n8 : p8 ∉ BF.all fb x := hB7.fresh hp8
      have o8 := o6'.trans (Off.of (hs7.trans hs8))
      have hn7' := hs8 _ _ hn7
      clear hs7 hs8 hn7
      refine x_frL (SqL.of hn8) (fun j σ H' => ∃ (v9 : Option V), σ = [some (.ref r), some (.ref x), some (.ref p), some (.int N), some (.int rw.st), some (.int rw.pg), some (.int rw.nm), some (.int rw.v), some (.ref p7), v9] ∧ Off (BF.all fb x) H8 H' ∧ BookAt T.C_Book H' x fb (k2.drops (((heldL k2).take j).filter fun n => !decide (n ∈ keptV rw.v))))
        ⟨_, rfl, Off.refl, hB8⟩ (fun j σ H' _ h => by obtain ⟨_, _, hO, _⟩ := h; exact SqL.of (hO.at hn8 n8)) ?_ ?_
      · intro j y σ H9 hy9 ⟨v9, hσ, hO9, hB9⟩
        subst hσ
        obtain ⟨n, hn, rfl⟩ : ∃ n, (heldL k2)[j]? = some n ∧ y = .int n := by
          rw [List.getElem?_map] at hy9
          cases e : (heldL k2)[j]? with
          | none => rw [e] at hy9; cases hy9
          | some n => rw [e] at hy9; cases hy9; exact ⟨n, rfl, rfl⟩
        rw [List.take_add_one, hn, List.filter_append]
        have hkp : H9 p7 = some (.lst ((keptV rw.v).map V.int)) := hO9.at hn7' n7
        have hO9' := hO9
        clear hO9
        walk_at "go"
        by_cases hkn : n ∈ keptV rw.v
        · rw [if_pos (decide_eq_true hkn)]
          have e0 : (some n).toList.filter (fun n => !decide (n ∈ keptV rw.v)) = [] := by simp [hkn]
          rw [e0, List.append_nil]
          walk_at "go"
          exact ⟨_, rfl, hO9', hB9⟩
        · rw [if_neg (by rw [decide_eq_false hkn]; decide)]
          have e0 : (some n).toList.filter (fun n => !decide (n ∈ keptV rw.v)) = [n] := by simp [hkn]
          rw [e0, drops_snoc]
          walk_at "go"
          refine x_mForget hB9 ?_
          walk_at "go"
          refine ⟨x, fb, _, n, rfl, hB9, (drops_ok hnote.1).1, fun H10 hO10 hB10 => ?_⟩
          have o10 := hO9'.trans hO10
          clear hO9' hO10
          walk_at "go"
          exact ⟨_, rfl, o10, hB10⟩
      · intro σ H9 ⟨v9, hσ, hO9, hB9⟩
        subst hσ
        rw [List.length_map, List.take_length] at hB9
        exact ⟨_, _, _, _, _, _, rfl, o8.trans hO9, hB9, hnext⟩
    · rw [if_neg (by rw [decide_eq_false hz]; decide), if_neg hz]
      rw [if_neg hz] at hnext
      walk_at "go"
      exact ⟨_, _, _, _, _, _, rfl, o6, hB6, hnext⟩
  · intro σ H4 ⟨v4, v5, v6, v7, v8, v9, hσ, hO4, hB4, hk4⟩
    subst hσ
    rw [hyl, List.take_length] at hB4
    have s04 : Same H H4 := fun a o e => hO4 _ _ (fun m => by rw [nB a m] at e; cases e) (s03 _ _ e)
    clear hO4
    walk_at "go"
    exact q2 hd x fb H4 s04 nB hB4
theorem rb_ok {s : St} (hw : Wf s.q s.k) (hb : RbS s) (hst : s.k.stamp < 10 ^ 39) (hn : (rowsC s.q.ct).length < 64) : RowOk s.q ∧ RwOk s.q.b s.q.p (rowsQ s.q.ct) := by
  have key : ∀ i e, s.q.ct.getD i none = some e → 1 ≤ e.1 / 128 ∧ e.1 / 128 < s.k.stamp ∧ e.1 % 128 ≤ 64 ∧ 0 ≤ e.2 ∧ e.2 < 10 ^ 30 ∧ (e.1 % 128 = 64 → e.2 < 2 ^ 64) := fun i e he => by
    have := hb.1.rng i (by unfold wrC; rw [he]; exact fun z => by cases z)
    unfold stC nmC vlC at this
    rw [he] at this
    exact this
  refine ⟨⟨hn, fun i e he => ?_, hb.1.inj, hw.ctl⟩, ⟨by unfold rowsQ; rw [List.length_mergeSort]; exact hn, fun r hr => ?_⟩⟩
  · have := key i e he
    omega
  · obtain ⟨i, hi⟩ := rowsQ_mem.mp hr
    obtain ⟨w1, e1, e2, e3, e4, e5⟩ := rowC_some hi
    have k1 := key i _ e5
    have hil : i < s.q.ct.length := by
      by_cases z : i < s.q.ct.length
      · exact z
      · unfold wrC at w1
        rw [List.getD_eq_getElem?_getD, List.getElem?_eq_none (by omega)] at w1
        exact absurd rfl w1
    have hl := hw.ctl
    have hnm : 0 ≤ nmC s.q.ct i ∧ nmC s.q.ct i ≤ 64 := ⟨by unfold nmC; omega, by have := hb.1.rng i w1; exact this.2.2.1⟩
    have hm := mk_st (st := r.st) (n := r.nm) (by omega)
    dsimp only at k1
    rw [hm.1, hm.2] at k1
    refine ⟨by omega, by omega, fun hN => ⟨k1.2.2.2.1, k1.2.2.2.2.2 ?_⟩⟩
    rcases newR_split (rowsQ s.q.ct) 0 with ⟨_, z2⟩ | ⟨pre, R, post, z1, z2, z3, z4⟩
    · omega
    · have hR : R ∈ rowsQ s.q.ct := by rw [z1]; exact List.mem_append_right _ List.mem_cons_self
      obtain ⟨j, hj⟩ := rowsQ_mem.mp hR
      obtain ⟨v1, d1, d2, d3, _⟩ := rowC_some hj
      have := hb.1.inj i j w1 v1 (by omega)
      rw [e3, this, ← d3]
      exact z2
theorem x_bookOf {T : Txt K mg} {H : Hp} {Q : VK} {E : XK} {r : Addr} {F : CF} {q : Pc} (hC : ChipP T.C_Chip H r F q) (hR : RowOk q) (hW : RwOk q.b q.p (rowsQ q.ct)) (q1 : q.dark = true → ∀ H', Same H H' → E (.ref T.C_PowerGone) none H')
    (q2 : q.dark = false → ∀ rb fb H', Same H H' → (∀ a ∈ BF.all fb rb, H a = none) → BookAt T.C_Book H' rb fb (bookR q.b q.p (rowsQ q.ct)) → Q (.ref rb) H') : spBookOf T [.ref r] H Q E := ⟨r, F, q, rfl, hC, hR, hW, q1, q2⟩
/-! ### what laws of stores share: dicts of what is kept, a store that is made, a state -/
def kvF (f : Int → V) (ps : List (Int × Int)) : List (L2.Key × V) := ps.map fun e => (.inl e.1, f e.2)
theorem kvF_len {f : Int → V} {ps : List (Int × Int)} : (kvF f ps).length = ps.length := List.length_map _
theorem valV_F {f : Int → V} {n : Int} : ∀ {ps : List (Int × Int)}, valV (kvF f ps) (.inl n) = (getI ps n).map f
  | [] => rfl
  | e :: ps => by
    by_cases h : e.1 = n
    · have e1 : valV (kvF f (e :: ps)) (.inl n) = some (f e.2) := valV_pos (p := ((Sum.inl e.1 : L2.Key), f e.2)) (by rw [h])
      rw [e1]
      unfold getI
      rw [List.find?_cons, decide_eq_true h]
      rfl
    · have e1 : valV (kvF f (e :: ps)) (.inl n) = valV (kvF f ps) (.inl n) := valV_neg (p := ((Sum.inl e.1 : L2.Key), f e.2)) (fun z => h (Sum.inl.inj z))
      rw [e1, valV_F]
      unfold getI
      rw [List.find?_cons, decide_eq_false h]
theorem putK_F {f : Int → V} {ps : List (Int × Int)} {n x : Int} : putK (kvF f ps) (.inl n) (f x) = kvF f (putI ps n x) := by
  unfold putK putI
  have e : ((kvF f ps).any fun kv => decide (kv.1 = .inl n)) = ps.any fun e => decide (e.1 = n) := by
    unfold kvF
    rw [List.any_map]
    exact congrArg (ps.any ·) (funext fun e => keyI)
  rw [e]
  split
  · unfold kvF
    rw [List.map_map, List.map_map]
    refine List.map_congr_left fun e _ => ?_
    show (if (Sum.inl e.1 : L2.Key) = .inl n then _ else _) = _
    by_cases h : e.1 = n
    · rw [if_pos (by rw [h])]
      simp [h]
    · rw [if_neg (fun z => h (by injection z))]
      simp [h]
  · unfold kvF
    rw [List.map_append]
    rfl
/-! own dicts -/
theorem putI_keys {ps : List (Int × Int)} {n x : Int} : (putI ps n x).map (·.1) = if n ∈ ps.map (·.1) then ps.map (·.1) else ps.map (·.1) ++ [n] := by
  unfold putI
  by_cases h : n ∈ ps.map (·.1)
  · rw [if_pos h, if_pos (by obtain ⟨e, he, z⟩ := List.mem_map.mp h; exact List.any_eq_true.mpr ⟨e, he, decide_eq_true z⟩), List.map_map]
    refine List.map_congr_left fun e _ => ?_
    show (if e.1 = n then (e.1, x) else e).1 = e.1
    split <;> rfl
  · rw [if_neg h, if_neg (fun z => by obtain ⟨e, he, y⟩ := List.any_eq_true.mp z; exact h (List.mem_map.mpr ⟨e, he, of_decide_eq_true y⟩)), List.map_append]
    rfl
theorem mem_put {ps : List (Int × Int)} {n x m : Int} : m ∈ (putI ps n x).map (·.1) ↔ m ∈ ps.map (·.1) ∨ m = n := by
  rw [putI_keys]
  split
  · rename_i h
    exact ⟨.inl, fun z => z.elim id fun y => y ▸ h⟩
  · rw [List.mem_append, List.mem_singleton]
/-! ### the looker -/
def faultQ (q : Pc) (k : Bk) (sh pg : Int) : Option Str :=
  if ¬ (0 ≤ pg ∧ pg ≤ q.b * q.p - 1) then some "nothing" else match q.ct.getD pg.toNat none with
    | none => some "nothing"
    | some e => if e.1 % 128 ≠ sh then some "other" else match getI k.wh sh with
      | none => some "gone"
      | some x => if x ≠ pg then some "old" else none
def strO : Option Str → V
  | none => .non
  | some s => .str s
def spFault (T : Txt K mg) : Sp := fun vs H Q _ => ∃ (rc rb : Addr) (F : CF) (fb : BF) (q : Pc) (k : Bk) (sh pg : Int), vs = [.ref rc, .ref rb, .int sh, .int pg] ∧ ChipP T.C_Chip H rc F q ∧ BookAt T.C_Book H rb fb k ∧ (∀ i e, q.ct.getD i none = some e → 0 ≤ e.1) ∧ (q.ct.length : Int) = q.b * q.p ∧ q.dark = false ∧ Q (strO (faultQ q k sh pg)) H
theorem ok_fault (T : Txt K mg) : FO P w K mg base 5 T.a_fault T.fd_fault ["chip", "book", "sheet", "page"] (spFault T) := by
  have sc := sc_fault
  refine T.F_fault.okX sc (fun vs H Q E h => ?_) (fun cdv A outer s H vs Q E hr h => ?_)
  · obtain ⟨_, _, _, _, _, _, _, _, rfl, _⟩ := h
    rfl
  obtain ⟨rc, rb, F, fb, q, k, sh, pg, rfl, hC, hB, hm, hlen, hd, h⟩ := h
  refine ⟨_, (pss_cons (ps_if (pt_not (pt_truth (pe_callS (ok_is_within T) (hr.mono (by decide)) (by rfl) T.g_is_within T.k_is_within T.bd_is_within (passAt (takes_of rfl rfl rfl rfl)) (pa_cons (pv 3) (pa_cons pe_int (pa_cons (pe_op op_sub (pe_op op_uMul (pe_fld (pv 0) rfl) (pe_fld (pv 0) rfl)) pe_int) pa_nil)))) (by intro _; rfl))) (pss_one (ps_ret pe_str)) pss_nil)
      (pss_cons (ps_set (i := 4) sc.nd rfl (by first | exact Or.inl rfl | exact Or.inr rfl) (pe_methD (k := 4) (pv 0) (hr.mono (by decide)) (passAt (takes_of rfl rfl rfl rfl)) (pa_cons (pv 3) pa_nil)))
      (pss_cons (ps_if (pt_cmpR op_uIs (pv 4) pe_non (nomark _)) (pss_one (ps_ret pe_str)) pss_nil)
      (pss_cons (ps_if (pt_cmpR (op_uNe hr.units) (pe_callS (ok_name_of T) (hr.mono (by decide)) (by rfl) T.g_name_of T.k_name_of T.bd_name_of (passAt (takes_of rfl rfl rfl rfl)) (pa_cons (pe_ix ix_seq (pv 4) pe_int (fun _ _ => rfl)) pa_nil)) (pv 2) (nomark _)) (pss_one (ps_ret pe_str)) pss_nil)
      (pss_cons (ps_if (pt_cmp (pc_dnotin (hu_of hr) (pv 2) (pe_fld (pv 1) rfl))) (pss_one (ps_ret pe_str)) pss_nil)
      (pss_cons (ps_if (pt_cmpR (op_uNe hr.units) (pe_dget (hu_of hr) (pe_fld (pv 1) rfl) (pv 2) (fun _ _ => rfl)) (pv 3) (nomark _)) (pss_one (ps_ret pe_str)) pss_nil)
      (pss_one (ps_ret pe_non)))))))), ?_⟩
  obtain ⟨st, hC, hst⟩ := hC
  have ho := hC.obj
  unfold chipF Pc.toC at ho
  dsimp only at ho
  have hsz := hC.sz
  have hb : 2 ≤ q.b ∧ q.b ≤ 16 := hsz.b
  have hp : 1 ≤ q.p ∧ q.p ≤ 16 := hsz.p
  have hbp : q.b * q.p ≤ 16 * 16 := Int.mul_le_mul hb.2 hp.2 (by omega) (by decide)
  have hb0 : 0 ≤ q.b * q.p := Int.mul_nonneg (by omega) (by omega)
  have hob := hB.obj
  unfold bookF at hob
  have hwh := hB.wh
  unfold faultQ at h
  walk_at "begin"
  walk_at "if"
  by_cases hin : 0 ≤ pg ∧ pg ≤ q.b * q.p - 1
  · rw [if_neg (fun z => z hin)] at h
    rw [decide_eq_true hin]
    walk_at "go"
    refine x_mRead hC ?_
    walk_at "go"
    refine x_read hC hd ?_ ⟨hin.1, by have : (q.toC st).b * (q.toC st).p = q.b * q.p := rfl; omega⟩
    have hil : pg.toNat < st.length := by have := hst.1; omega
    rcases hst.2 pg.toNat hil with ⟨c1, c2⟩ | ⟨a, m, x, c1, c2, c3⟩
    · rw [c1] at h
      rw [show (q.toC st).stuff = st from rfl, c2]
      walk_at "go"
      walk_at "if"
      exact h
    · rw [c1] at h
      have hm0 := hm _ _ c1
      dsimp only at h hm0
      rw [show (q.toC st).stuff = st from rfl, c2]
      walk_at "go"
      walk_at "if"
      rw [if_neg (by rw [show decide (V.ref a = V.non) = false from decide_eq_false fun z => by cases z]; decide)]
      walk_at "go"
      walk_at "if"
      refine x_iteD (fun he => ?_) (fun hne => ?_)
      rotate_left
      · rw [if_pos hne] at h
        walk_at "go"
        exact h
      rw [if_neg (fun z => z he)] at h
      walk_at "go"
      walk_at "if"
      rw [valV_I, Option.isSome_map]
      cases hg : getI k.wh sh with
      | none =>
        rw [hg] at h
        walk_at "go"
        exact h
      | some y =>
        rw [hg] at h
        dsimp only at h
        rw [if_pos (show (some y).isSome = true from rfl)]
        walk_at "go"
        walk_at "if"
        refine x_dgI hwh (by rw [valV_I, hg]; rfl) ?_
        walk_at "go"
        refine x_iteD (fun he => ?_) (fun hne => ?_)
        · rw [if_neg (fun z => z he)] at h
          walk_at "go"
          exact h
        · rw [if_pos hne] at h
          walk_at "go"
          exact h
  · rw [if_pos hin] at h
    rw [decide_eq_false hin]
    walk_at "go"
    exact h
def flt0 (o : Option Str) (sh pg : Int) : List (Int × Int × Str) := match o with
  | none => []
  | some s => [(sh, pg, s)]
def flt1 (q : Pc) (k : Bk) : List Int → List (Int × Int) → List (Int × Int × Str)
  | _, [] => []
  | prev, e :: r => flt0 (if e.1 ∈ prev then some "twice" else faultQ q k e.1 e.2) e.1 e.2 ++ flt1 q k (prev ++ [e.1]) r
def fltM (k : Bk) (told : List Int) (hs : List Int) : List (Int × Int × Str) := (hs.filter fun n => !decide (n ∈ told)).map fun n => (n, (getI k.wh n).getD 0, "missing")
def faultsQ (q : Pc) (k : Bk) (told : List (Int × Int)) : List (Int × Int × Str) := flt1 q k [] told ++ fltM k (told.map (·.1)) (heldL k)
theorem flt1_snoc {q : Pc} {k : Bk} {e : Int × Int} : ∀ {l : List (Int × Int)} {prev : List Int}, flt1 q k prev (l ++ [e]) = flt1 q k prev l ++ flt0 (if e.1 ∈ prev ++ l.map (·.1) then some "twice" else faultQ q k e.1 e.2) e.1 e.2
  | [], prev => by
    rw [List.map_nil, List.append_nil]
    show flt0 _ _ _ ++ [] = [] ++ _
    rw [List.append_nil]
    rfl
  | x :: l, prev => by
    rw [List.cons_append]
    show _ ++ flt1 q k (prev ++ [x.1]) (l ++ [e]) = (_ ++ flt1 q k (prev ++ [x.1]) l) ++ _
    rw [flt1_snoc, List.map_cons, List.append_assoc, List.append_assoc]
    rfl
def FltL (H : Hp) (xs : List V) (l : List (Int × Int × Str)) : Prop := xs.length = l.length ∧ ∀ (i : Nat) x e, xs[i]? = some x → l[i]? = some e → ∃ t, x = .ref t ∧ H t = some (.tup [.int e.1, .int e.2.1, .str e.2.2])
theorem FltL.mono {H H' : Hp} {xs : List V} {l : List (Int × Int × Str)} (s : TupS H H') (h : FltL H xs l) : FltL H' xs l := ⟨h.1, fun i x e h1 h2 => by
  obtain ⟨t, q, h⟩ := h.2 i x e h1 h2
  exact ⟨t, q, s _ _ h⟩⟩
theorem FltL.nil {H : Hp} : FltL H [] [] := ⟨rfl, fun i x e h _ => by simp at h⟩
theorem FltL.snoc {H : Hp} {xs : List V} {l : List (Int × Int × Str)} {v : V} {e : Int × Int × Str} (h : FltL H xs l) (hv : ∃ t, v = .ref t ∧ H t = some (.tup [.int e.1, .int e.2.1, .str e.2.2])) : FltL H (xs ++ [v]) (l ++ [e]) := by
  refine ⟨by simp [h.1], fun i x y h1 h2 => ?_⟩
  by_cases hi : i < xs.length
  · rw [List.getElem?_append_left hi] at h1
    rw [List.getElem?_append_left (h.1 ▸ hi)] at h2
    exact h.2 i x y h1 h2
  · have e1 : i = xs.length := by
      have := (List.getElem?_eq_some_iff.mp h1).1
      simp at this
      omega
    subst e1
    rw [List.getElem?_append_right (Nat.le_refl _)] at h1
    rw [h.1, List.getElem?_append_right (Nat.le_refl _)] at h2
    simp at h1 h2
    subst h1 h2
    exact hv
theorem TupS.upd4 {a : Addr} {H H' : Hp} {kvs : List (L2.Key × V)} (s : Off [a] H H') (h : H a = some (.dK kvs)) : TupS H H' := fun b ys e => s b _ (fun m => by rw [List.mem_singleton.mp m, h] at e; cases e) e
theorem bookR_ok {b p : Int} {rows : List Row} (hb : 2 ≤ b ∧ b ≤ 16) (hp : 1 ≤ p ∧ p ≤ 16) (W : RwOk b p rows) : BkOk (bookR b p rows) := by
  have key : ∀ i, i ≤ rows.length → BkOk ((rows.take i).foldl (stepR (newR 0 rows)) (Bk.new b p)) ∧ ((rows.take i).foldl (stepR (newR 0 rows)) (Bk.new b p)).wh.length ≤ i ∧ ((rows.take i).foldl (stepR (newR 0 rows)) (Bk.new b p)).b = b ∧ ((rows.take i).foldl (stepR (newR 0 rows)) (Bk.new b p)).p = p := fun i => by
    induction i with
    | zero => exact fun _ => ⟨Bk.new_ok hb hp, Nat.le_refl 0, rfl, rfl⟩
    | succ i ih =>
      intro hi
      obtain ⟨r, hr⟩ : ∃ r, rows[i]? = some r := ⟨_, List.getElem?_eq_getElem (by omega)⟩
      have hw := W.r r (List.mem_of_getElem? hr)
      rw [fold_take hr]
      exact step_ok (ih (by omega)) (by have := W.n; omega) ⟨hw.1, hw.2.1⟩
  have := (key rows.length (Nat.le_refl _)).1
  rw [List.take_length] at this
  exact this
def knF (l : List (Int × Int)) : List (Int × Int) := l.foldl (fun kv e => putI kv e.1 1) []
theorem knF_snoc {l : List (Int × Int)} {e : Int × Int} : knF (l ++ [e]) = putI (knF l) e.1 1 := by unfold knF; rw [List.foldl_append]; rfl
theorem knF_len {l : List (Int × Int)} : (knF l).length ≤ l.length := by
  have : ∀ (l kv : List (Int × Int)), (l.foldl (fun kv e => putI kv e.1 1) kv).length ≤ kv.length + l.length := fun l => by
    induction l with
    | nil => exact fun kv => Nat.le_refl _
    | cons e l ih =>
      intro kv
      have h1 := ih (putI kv e.1 1)
      have h2 := putI_len (ps := kv) (n := e.1) (x := 1)
      rw [List.foldl_cons, List.length_cons]
      omega
  have := this l []
  rw [List.length_nil, Nat.zero_add] at this
  exact this
theorem knF_key {l : List (Int × Int)} {n : Int} : (getI (knF l) n).isSome = decide (n ∈ l.map (·.1)) := by
  have : ∀ (l kv : List (Int × Int)), n ∈ (l.foldl (fun kv e => putI kv e.1 1) kv).map (·.1) ↔ n ∈ kv.map (·.1) ∨ n ∈ l.map (·.1) := fun l => by
    induction l with
    | nil => intro kv; simp
    | cons e l ih =>
      intro kv
      rw [List.foldl_cons, ih, mem_put, List.map_cons, List.mem_cons]
      exact ⟨fun h => h.elim (fun h => h.elim .inl fun h => .inr (.inl h)) fun h => .inr (.inr h), fun h => h.elim (fun h => .inl (.inl h)) fun h => h.elim (fun h => .inl (.inr h)) .inr⟩
  have h2 : n ∈ (knF l).map (·.1) ↔ n ∈ l.map (·.1) := by
    have := this l []
    rw [List.map_nil] at this
    exact this.trans ⟨fun z => z.elim (fun y => by cases y) id, .inr⟩
  cases hg : getI (knF l) n with
  | none => exact (decide_eq_false fun z => getI_key.mp hg (h2.mpr z)).symm
  | some x => exact (decide_eq_true (h2.mp (List.mem_map.mpr ⟨_, getI_mem hg, rfl⟩))).symm
local macro_rules | `(tactic| walk_at "u") => `(tactic| ((with_reducible refine' x_appO ?ho ?_ ?hl); (case ho => walk_at "hp"); (try (case hl => walk_at "side")); intro H1 hO hI; (try dsimp only)))
def spFaults (T : Txt K mg) : Sp := fun vs H Q E => ∃ (rc a : Addr) (F : CF) (q : Pc) (ys : List V) (told : List (Int × Int)), vs = [.ref rc, .ref a] ∧ ChipP T.C_Chip H rc F q ∧ RowOk q ∧ RwOk q.b q.p (rowsQ q.ct) ∧ SqL K H a ys ∧ PairL H ys told ∧ told.length ≤ 200 ∧ (q.dark = true → ∀ H', Same H H' → E (.ref T.C_PowerGone) none H') ∧
  (q.dark = false → ∀ p vs' H', Same H H' → H p = none → H' p = some (.lst vs') → FltL H' vs' (faultsQ q (bookR q.b q.p (rowsQ q.ct)) told) → Q (.ref p) H')
theorem ok_faults (T : Txt K mg) : FO P w K mg base 7 T.a_faults T.fd_faults ["chip", "told"] (spFaults T) := by
  have sc := sc_faults
  refine T.F_faults.okX sc (fun vs H Q E h => ?_) (fun cdv A outer s H vs Q E hr h => ?_)
  · obtain ⟨_, _, _, _, _, _, rfl, _⟩ := h
    rfl
  obtain ⟨rc, a, F, q, ys, told, rfl, hC, hR, hW, hS, hT, hl, q1, q2⟩ := h
  refine ⟨_, (pss_cons (ps_set (i := 2) sc.nd rfl (by first | exact Or.inl rfl | exact Or.inr rfl) (pe_callS (ok_book_of T) (hr.mono (by decide)) (by rfl) T.g_book_of T.k_book_of T.bd_book_of (passAt (takes_of rfl rfl rfl rfl)) (pa_cons (pv 0) pa_nil)))
      (pss_cons (ps_set (i := 3) sc.nd rfl (by first | exact Or.inl rfl | exact Or.inr rfl) (pe_lst pa_nil))
      (pss_cons (ps_set (i := 4) sc.nd rfl (by first | exact Or.inl rfl | exact Or.inr rfl) pe_dnewK)
      (pss_cons (ps_for (passes_of rfl) rfl (pi_list (pv 1)) (pg_tup (by rfl) (pgs_cons (pg_name (i := 5) sc.nd rfl (by first | exact Or.inl rfl | exact Or.inr rfl)) (pgs_cons (pg_name (i := 6) sc.nd rfl (by first | exact Or.inl rfl | exact Or.inr rfl)) pgs_nil))) (pss_cons (ps_set (i := 7) sc.nd rfl (by first | exact Or.inl rfl | exact Or.inr rfl) (pe_callS (ok_fault T) (hr.mono (by decide)) (by rfl) T.g_fault T.k_fault T.bd_fault (passAt (takes_of rfl rfl rfl rfl)) (pa_cons (pv 0) (pa_cons (pv 2) (pa_cons (pv 5) (pa_cons (pv 6) pa_nil))))))
      (pss_cons (ps_if (pt_cmp (pc_din (hu_of hr) (pv 5) (pv 4))) (pss_one (ps_set (i := 7) sc.nd rfl (by first | exact Or.inl rfl | exact Or.inr rfl) pe_str)) pss_nil)
      (pss_cons (ps_if (pt_cmpR op_uIsNot (pv 7) pe_non (nomark _)) (pss_one (ps_expr (pe_bm PySem.F.plainAttrs_list PySem.F.slot_list_append PySem.F.type_list_append mt_append (pv 3) (pa_cons (pe_tup (pa_cons (pv 5) (pa_cons (pv 6) (pa_cons (pv 7) pa_nil)))) pa_nil)))) pss_nil)
      (pss_one (ps_dput (hu_of hr) (pv 4) (pv 5) pe_bl rfl))))))
      (pss_cons (ps_for (passes_of rfl) rfl (pi_list (pe_methD0 (k := 2) (pv 2) (hr.mono (by decide)) (passAt (takes_of rfl rfl rfl rfl)))) (pg_name (i := 5) sc.nd rfl (by first | exact Or.inl rfl | exact Or.inr rfl)) (pss_one (ps_if (pt_cmp (pc_dnotin (hu_of hr) (pv 5) (pv 4))) (pss_one (ps_expr (pe_bm PySem.F.plainAttrs_list PySem.F.slot_list_append PySem.F.type_list_append mt_append (pv 3) (pa_cons (pe_tup (pa_cons (pv 5) (pa_cons (pe_dget (hu_of hr) (pe_fld (pv 2) rfl) (pv 5) (fun _ _ => rfl)) (pa_cons pe_str pa_nil)))) pa_nil)))) pss_nil)))
      (pss_one (ps_ret (pv 3)))))))), ?_⟩
  obtain ⟨zb, zp, _, _⟩ := hC.sz
  have hkk := bookR_ok zb zp hW
  have hyl : ys.length = told.length := hT.1
  walk_at "begin"
  walk_at "go"
  refine x_bookOf hC hR hW (fun hd H1 hs1 => q1 hd H1 hs1) fun hd rb fb H1 hs1 hF1 hB1 => ?_
  generalize bookR q.b q.p (rowsQ q.ct) = k at q2 hkk hB1
  walk_at "go"
  rename_i p3 H2a hp3 hs2a hn3a p4 H2 hp4 hs2b hn4
  have hn3 := hs2b _ _ hn3a
  have h34 : p3 ≠ p4 := ne_of_none hn3a hp4
  have hp4' : H1 p4 = none := same_none hs2a hp4
  have s12 : Same H1 H2 := hs2a.trans hs2b
  clear hs2a hs2b hn3a
  refine x_seq ?_
  walk_at "go"
  refine x_frL ((hs1.trans s12).seq hS) (fun i σ H' => ∃ (v5 v6 v7 : Option V) (vs' : List V), σ = [some (.ref rc), some (.ref a), some (.ref rb), some (.ref p3), some (.ref p4), v5, v6, v7] ∧ Same H1 H' ∧ H' p3 = some (.lst vs') ∧ FltL H' vs' (flt1 q k [] (told.take i)) ∧ vs'.length ≤ i ∧ H' p4 = some (.dK (kvF (fun _ => V.bl true) (knF (told.take i)))))
    ⟨_, _, _, [], rfl, s12, hn3, FltL.nil, Nat.le_refl 0, hn4⟩ (fun i σ H' _ h => by obtain ⟨_, _, _, _, _, s, _⟩ := h; exact (hs1.trans s).seq hS) ?_ ?_
  · intro i y σ H3 hy ⟨v5, v6, v7, vs', hσ, s13, hn3', hF, hvl, hn4'⟩
    subst hσ
    have hil := (List.getElem?_eq_some_iff.mp hy).1
    obtain ⟨e, he⟩ : ∃ e, told[i]? = some e := ⟨_, List.getElem?_eq_getElem (by omega)⟩
    obtain ⟨t, rfl, ht⟩ := hT.2 i y e hy he
    have ht3 := s13 _ _ (hs1 _ _ ht)
    have etk : told.take (i + 1) = told.take i ++ [e] := by rw [List.take_add_one, he]; rfl
    rw [etk, flt1_snoc, List.nil_append, knF_snoc]
    have hkl := knF_len (l := told.take i)
    rw [List.length_take] at hkl
    refine x_gtup2 (SqT.of ht3) ?_
    dsimp only [List.set]
    walk_at "go"
    refine ⟨rc, rb, F, fb, q, k, e.1, e.2, rfl, hC.mono (hs1.trans s13), hB1.mono s13, fun j x hx => (hR.rng j x hx).1, hR.len, hd, ?_⟩
    walk_at "go"
    refine x_join (fun σ' H' => H' = H3 ∧ σ' = [some (.ref rc), some (.ref a), some (.ref rb), some (.ref p3), some (.ref p4), some (.int e.1), some (.int e.2), some (strO (if e.1 ∈ (told.take i).map (·.1) then some "twice" else faultQ q k e.1 e.2))]) (fun R hR2 => ?_) ?_
    · walk_at "go"
      rw [valV_F, Option.isSome_map, knF_key]
      by_cases hin : e.1 ∈ (told.take i).map (·.1)
      · rw [decide_eq_true hin]
        walk_at "go"
        exact hR2 _ _ ⟨rfl, by rw [if_pos hin]; rfl⟩
      · rw [decide_eq_false hin]
        walk_at "go"
        exact hR2 _ _ ⟨rfl, by rw [if_neg hin]⟩
    intro σ' H3' ⟨eH, hσ⟩
    subst hσ eH
    generalize (if e.1 ∈ (told.take i).map (·.1) then some ("twice" : Str) else faultQ q k e.1 e.2) = o
    have hkl2 : (kvF (fun _ => V.bl true) (knF (told.take i))).length ≤ 1000 := by rw [kvF_len]; omega
    cases o with
    | none =>
      walk_at "go"
      walk_at "if"
      rw [if_pos (show decide (strO none = V.non) = true from decide_eq_true rfl)]
      walk_at "go"
      refine x_dpI (kvs' := kvF (fun _ => V.bl true) (putI (knF (told.take i)) e.1 1)) hn4' (putK_F (f := fun _ => V.bl true) (x := 1)) (fun H4 hO4 hI4 => ?_) hkl2
      have s14 : Same H1 H4 := Off.same1 s13 hO4 hp4'
      exact ⟨_, _, _, vs', rfl, s14, hO4.at hn3' (nin_of h34), by rw [show flt0 none e.1 e.2 = [] from rfl, List.append_nil]; exact hF.mono (TupS.upd4 hO4 hn4'), Nat.le_succ_of_le hvl, hI4⟩
    | some z =>
      have hvsl : vs'.length < sizeLine := Nat.lt_of_le_of_lt (show _ ≤ 300 by omega) (by decide)
      walk_at "go"
      walk_at "if"
      rw [if_neg (show ¬ decide (strO (some z) = V.non) = true by rw [decide_eq_false (fun y => by cases y)]; decide)]
      walk_at "go"
      rename_i t1 H4 ht1 hs4 hn5 H5 hO5 hI5
      have hn4'' : H5 p4 = some (.dK (kvF (fun _ => V.bl true) (knF (told.take i)))) := hO5.at (hs4 _ _ hn4') (nin_of h34.symm)
      have s15 : Same H1 H5 := Off.same1 (s13.trans hs4) hO5 hp3
      have ht15 := hO5.at hn5 (fun y => by rw [List.mem_singleton.mp y, hn3'] at ht1; cases ht1)
      have hF5 : FltL H5 (vs' ++ [V.ref t1]) (flt1 q k [] (told.take i) ++ [(e.1, e.2, z)]) := (hF.mono ((TupS.of hs4).trans (hO5.tupsL (hs4 _ _ hn3')))).snoc ⟨t1, rfl, ht15⟩
      refine x_dpI (kvs' := kvF (fun _ => V.bl true) (putI (knF (told.take i)) e.1 1)) hn4'' (putK_F (f := fun _ => V.bl true) (x := 1)) (fun H6 hO6 hI6 => ?_) hkl2
      have s16 : Same H1 H6 := Off.same1 s15 hO6 hp4'
      exact ⟨_, _, _, _, rfl, s16, hO6.at hI5 (nin_of h34), hF5.mono (TupS.upd4 hO6 hn4''), by rw [List.length_append, List.length_singleton]; omega, hI6⟩
  · intro σ H3 ⟨v5, v6, v7, vs', hσ, s13, hn3', hF, hvl, hn4'⟩
    subst hσ
    rw [hyl, List.take_length] at hF hn4'
    dsimp only
    refine x_seq ?_
    walk_at "go"
    refine x_mBHeld (hB1.mono s13) hkk fun p5 H4 hs4 hp5 hn5 => ?_
    have hn3'' := hs4 _ _ hn3'
    have hn4'' := hs4 _ _ hn4'
    have s14 := s13.trans hs4
    have hF4 := hF.mono (TupS.of hs4)
    have hp35 : p5 ≠ p3 := fun z => by rw [z, hn3'] at hp5; cases hp5
    have hp1 : H1 p3 = none := hp3
    clear hs4 hn3' hn4' hF s13
    have hhl := heldL_len (k := k)
    have hwl := hkk.whl
    refine x_frL (SqL.of hn5) (fun j σ H' => ∃ (v5 : Option V) (vs2 : List V), σ = [some (.ref rc), some (.ref a), some (.ref rb), some (.ref p3), some (.ref p4), v5, v6, v7] ∧ Same H1 H' ∧ Off [p3] H4 H' ∧ H' p3 = some (.lst vs2) ∧ FltL H' vs2 (flt1 q k [] told ++ fltM k (told.map (·.1)) ((heldL k).take j)) ∧ vs2.length ≤ told.length + j)
      ⟨_, vs', rfl, s14, Off.refl, hn3'', by rw [show fltM k (told.map (·.1)) ((heldL k).take 0) = [] from rfl, List.append_nil]; exact hF4, by omega⟩ (fun j σ H' _ h => by obtain ⟨_, _, _, _, hO, _⟩ := h; exact SqL.of (hO.at hn5 (nin_of hp35))) ?_ ?_
    · intro j y σ H5 hy ⟨v5, vs2, hσ, s15, hO5, hn35, hF5, hvl2⟩
      subst hσ
      obtain ⟨n, hn, rfl⟩ : ∃ n, (heldL k)[j]? = some n ∧ y = .int n := by
        rw [List.getElem?_map] at hy
        cases e : (heldL k)[j]? with
        | none => rw [e] at hy; cases hy
        | some n => rw [e] at hy; cases hy; exact ⟨n, rfl, rfl⟩
      have hjl := (List.getElem?_eq_some_iff.mp hn).1
      have etk : fltM k (told.map (·.1)) ((heldL k).take (j + 1)) = fltM k (told.map (·.1)) ((heldL k).take j) ++ fltM k (told.map (·.1)) [n] := by
        unfold fltM
        rw [List.take_add_one, hn, List.filter_append, List.map_append]
        rfl
      rw [etk]
      have hn45 : H5 p4 = some (.dK (kvF (fun _ => V.bl true) (knF told))) := hO5.at hn4'' (nin_of h34.symm)
      have hvsl : vs2.length < sizeLine := Nat.lt_of_le_of_lt (show _ ≤ 2000 by omega) (by decide)
      have hB5 := hB1.mono s15
      have hob := hB5.obj
      unfold bookF at hob
      have hwh := hB5.wh
      have hO5' := hO5
      clear hO5
      walk_at "go"
      rw [valV_F, Option.isSome_map, knF_key]
      by_cases hin : n ∈ told.map (·.1)
      · rw [decide_eq_true hin]
        walk_at "go"
        exact ⟨_, vs2, rfl, s15, hO5', hn35, by rw [show fltM k (told.map (·.1)) [n] = [] by unfold fltM; simp [hin], List.append_nil]; exact hF5, by omega⟩
      · rw [decide_eq_false hin]
        obtain ⟨pg, hpg⟩ : ∃ pg, getI k.wh n = some pg := by
          obtain ⟨⟨pg, hm⟩, _⟩ := heldL_mem.mp (List.mem_of_getElem? hn)
          cases hg : getI k.wh n with
          | none => exact absurd (List.mem_map.mpr ⟨_, hm, rfl⟩) (getI_key.mp hg)
          | some x => exact ⟨x, rfl⟩
        walk_at "go"
        refine x_dgI hwh (by rw [valV_I, hpg]; rfl) ?_
        walk_at "go"
        rename_i t1 H6 ht1 hs6 hn6 H7 hO7 hI7
        have ht17 := hO7.at hn6 (fun y => by rw [List.mem_singleton.mp y, hn35] at ht1; cases ht1)
        refine ⟨_, _, rfl, Off.same1 (s15.trans hs6) hO7 hp1, (hO5'.trans (Off.of hs6)).trans hO7, hI7, ?_, by rw [List.length_append, List.length_singleton]; omega⟩
        rw [show fltM k (told.map (·.1)) [n] = [((n, pg, ("missing" : Str)) : Int × Int × Str)] by unfold fltM; rw [List.filter_cons_of_pos (by simp [hin]), List.filter_nil, List.map_cons, hpg]; rfl, ← List.append_assoc]
        exact (hF5.mono ((TupS.of hs6).trans (hO7.tupsL (hs6 _ _ hn35)))).snoc ⟨t1, rfl, ht17⟩
    · intro σ H5 ⟨v5, vs2, hσ, s15, hO5, hn35, hF5, hvl2⟩
      subst hσ
      rw [List.length_map, List.take_length] at hF5
      have s05 := hs1.trans s15
      clear hO5
      walk_at "go"
      exact q2 hd p3 vs2 H5 s05 (same_none hs1 hp3) hn35 hF5
/-! ### pages laid by hand: a book that knows the newest page of every name -/
theorem wf_putX {q q' : Pc} {k : Bk} {to m : Nat} {x n v : Int} (w : Wf q k) (P : Pl q.ct k to m x n v) (hx : x + 1 < 10 ^ 40) (e1 : q'.b = q.b) (e2 : q'.p = q.p) (e3 : q'.ct = setC q.ct to x n v) (e4 : q'.clr = q.clr) (e5 : q.log.length ≤ q'.log.length) : Wf q' ((k.at x).note to n) := by
  obtain ⟨q2, w2, c1, c2, c3⟩ := wf_putP w P hx
  exact ⟨by rw [w2.kb, c2, e1], by rw [w2.kp, c3, e2], by have := w2.ctl; rw [c1, c2, c3] at this; rw [e1, e2, e3]; exact this, w2.bk, w2.fil, by have := w2.clear; rw [c1, c2, c3] at this; rw [e1, e2, e3]; exact this, w2.keys, w2.rng, by have := w2.own; rw [c1] at this; rw [e3]; exact this, w2.nms, by have := w2.lv; rw [c2] at this; rw [e1]; exact this, w2.bn, fun i => by rw [e4]; have := w.cb i; omega⟩
/-- a chip without ills and with power -/
structure ChOk (q : Pc) : Prop where
  on : q.left = none
  ls : ∀ n, q.lasts.getD n .non = .non
  br : ∀ n, q.broken.getD n false = false
section
variable {q : Pc} {k : Bk} {pg : Int} {e : Int × Int}
theorem ChOk.put (h : ChOk q) : q.putP pg e = (none, { q.said (pg / q.p).toNat true ("put", pg) with ct := q.ct.set pg.toNat (some e) }) := by
  have hd : q.dark = false := by unfold Pc.dark; rw [h.on]; rfl
  have hw : q.well (pg / q.p).toNat false = true := by
    unfold Pc.well
    rw [h.ls, decide_eq_false (fun z => by cases z)]
    rfl
  unfold Pc.putP
  rw [if_neg (by rw [hd]; decide), if_pos hw]
theorem ChOk.put2 (h : ChOk q) : ChOk (q.putP pg e).2 := by
  rw [h.put]
  refine ⟨?_, h.ls, fun n => ?_⟩
  · show q.left.map _ = none
    rw [h.on]; rfl
  · show (q.broken.set _ (!true)).getD n false = false
    rw [getD_set']
    split
    · rfl
    · exact h.br n
theorem ChOk.dark (h : ChOk q) : q.dark = false := by unfold Pc.dark; rw [h.on]; rfl
structure HandB (q : Pc) (k : Bk) : Prop where
  fn : ChOk q
  wf : Wf q k
  rb : Rb0 q.ct k
  al : AllN q.ct k
theorem HandB.new {b p m : Int} (hb : 2 ≤ b ∧ b ≤ 16) (hp : 1 ≤ p ∧ p ≤ 16) : HandB (Pc.new b p m (List.replicate b.toNat .non)) (Bk.new b p) := by
  have hr := newBk_rb (b := b) (p := p) (n := (b * p).toNat)
  have rep : ∀ {α : Type} {d x : α} {n i : Nat}, x = d → (List.replicate n x).getD i d = d := fun {α d x n i} h => by
    rw [List.getD_eq_getElem?_getD, List.getElem?_replicate, h]
    split <;> rfl
  refine ⟨⟨rfl, fun n => rep rfl, fun n => rep rfl⟩, Wf.new (m := 0) (l := []) hb hp rfl rfl rfl fun n => ?_, hr.1, hr.2.1⟩
  rw [show (Pc.new b p m (List.replicate b.toNat .non)).clr.getD n 0 = 0 from rep rfl]
  exact ⟨Int.le_refl _, Int.natCast_nonneg _⟩
/-- the next page of a block -/
theorem HandB.pl (h : HandB q k) {m : Nat} {x n v : Int} (hm : m < q.b.toNat) (hf : k.fil.getD m 0 < q.p) (hx : k.stamp ≤ x) (hn : 0 ≤ n ∧ n ≤ 64) (hv : 0 ≤ v ∧ v < 10 ^ 30 ∧ (n = 64 → v < 2 ^ 64)) : Pl q.ct k (m * q.p.toNat + (k.fil.getD m 0).toNat) m x n v := by
  have w := h.wf
  have hp := w.bk.p
  have hb := w.bk.b
  have f0 := (w.fil m).1
  have hkp := w.kp
  have hkb := w.kb
  obtain ⟨p', hp'⟩ := Int.eq_ofNat_of_zero_le (show 0 ≤ q.p by omega)
  obtain ⟨f', hf'⟩ := Int.eq_ofNat_of_zero_le f0
  have e1 : q.p.toNat = p' := by rw [hp', Int.toNat_natCast]
  have hfl : f' < p' := by rw [hf', hp'] at hf; exact Int.ofNat_lt.mp hf
  have hcl := w.clear m f' hm (by omega) (by rw [hf']; exact Int.le_refl _)
  have hst := w.bk.st
  refine ⟨by rw [hkb]; exact hm, f0, by rw [hkp]; exact hf, by rw [hkp], ?_, ?_, ?_, ⟨by have := w.bk.fil; omega, by have := w.bk.born; omega⟩, ⟨hx, ?_⟩, hn, hv⟩
  · rw [hf', e1, Int.toNat_natCast, hkp, hp']
    have : ((m * p' + f' : Nat) : Int) / (p' : Int) = (m : Int) := by
      rw [← Int.natCast_ediv, Nat.mul_comm, Nat.mul_add_div (by omega), Nat.div_eq_of_lt hfl, Nat.add_zero]
    rw [this, Int.toNat_natCast]
  · unfold wrC
    rw [hf', Int.toNat_natCast, hcl]
    exact fun z => z rfl
  · have hl := w.ctl
    obtain ⟨b', hb'⟩ := Int.eq_ofNat_of_zero_le (show 0 ≤ q.b by omega)
    rw [hb', hp', ← Int.natCast_mul] at hl
    have hl := Int.ofNat_inj.mp hl
    rw [hf', e1, Int.toNat_natCast, hl]
    rw [hb', Int.toNat_natCast] at hm
    calc m * p' + f' < m * p' + p' := by omega
      _ = (m + 1) * p' := (Nat.succ_mul _ _).symm
      _ ≤ b' * p' := Nat.mul_le_mul_right _ hm
  · rcases h.rb.last with z | ⟨n, pg, z1, z2⟩
    · omega
    · have := h.rb.wr _ _ z1
      have := h.rb.rng _ this.1
      omega
theorem HandB.page (h : HandB q k) {m : Nat} (hm : m < q.b.toNat) (hf : k.fil.getD m 0 < q.p) : (0 ≤ (m : Int) * q.p + k.fil.getD m 0 ∧ (m : Int) * q.p + k.fil.getD m 0 < q.b * q.p) ∧ ((m : Int) * q.p + k.fil.getD m 0).toNat = m * q.p.toNat + (k.fil.getD m 0).toNat ∧ ((m : Int) * q.p + k.fil.getD m 0) / q.p = m := by
  have hp := h.wf.bk.p
  have f0 := (h.wf.fil m).1
  have hkp := h.wf.kp
  have hpa := page_at (n := m) (p := q.p) (x := k.fil.getD m 0) (by omega) f0 hf
  refine ⟨⟨?_, ?_⟩, hpa.2, hpa.1⟩
  · have : 0 ≤ (m : Int) * q.p := Int.mul_nonneg (Int.natCast_nonneg _) (by omega)
    omega
  · have : ((m : Int) + 1) * q.p ≤ q.b * q.p := Int.mul_le_mul_of_nonneg_right (by omega) (by omega)
    rw [Int.add_mul, Int.one_mul] at this
    omega
theorem HandB.put (h : HandB q k) {m : Nat} {x n v : Int} (hm : m < q.b.toNat) (hf : k.fil.getD m 0 < q.p) (hx : k.stamp ≤ x) (hx2 : x + 1 < 10 ^ 40) (hn : 0 ≤ n ∧ n ≤ 64) (hv : 0 ≤ v ∧ v < 10 ^ 30 ∧ (n = 64 → v < 2 ^ 64)) :
    (q.putP ((m : Int) * q.p + k.fil.getD m 0) (My.mk x n, v)).1 = none ∧ HandB (q.putP ((m : Int) * q.p + k.fil.getD m 0) (My.mk x n, v)).2 ((k.at x).note ((m : Int) * q.p + k.fil.getD m 0) n) := by
  have P := h.pl hm hf hx hn hv
  obtain ⟨⟨g0, g1⟩, gn, gb⟩ := h.page hm hf
  have ep : (((m * q.p.toNat + (k.fil.getD m 0).toNat : Nat)) : Int) = (m : Int) * q.p + k.fil.getD m 0 := by omega
  have f2 := h.fn.put2 (pg := (m : Int) * q.p + k.fil.getD m 0) (e := (My.mk x n, v))
  have hct : (q.putP ((m : Int) * q.p + k.fil.getD m 0) (My.mk x n, v)).2.ct = setC q.ct (m * q.p.toNat + (k.fil.getD m 0).toNat) x n v := by rw [h.fn.put]; show q.ct.set _ _ = _; rw [gn]; rfl
  refine ⟨by rw [h.fn.put], f2, ?_, ?_, ?_⟩
  · rw [← ep] at *
    exact wf_putX h.wf P hx2 putP_bp.1 putP_bp.2 hct putP_clr putP_log
  · rw [hct, ← ep]
    exact h.rb.put h.wf.keys P
  · rw [hct, ← ep]
    exact h.al.put P
end
/-! ### the rows of a law that lays pages -/
def noteR (k : Bk) (r : Row) : Bk := (k.at r.st).note r.pg r.nm
def kAll (b p : Int) (rows : List Row) : Bk := rows.foldl noteR (Bk.new b p)
theorem kAll_snoc {b p : Int} {rows : List Row} {r : Row} : kAll b p (rows ++ [r]) = noteR (kAll b p rows) r := by unfold kAll; rw [List.foldl_append]; rfl
/-- a row that is laid on the next page of a block -/
structure RowAt (b p : Int) (k : Bk) (r : Row) (m : Nat) : Prop where
  lt : m < b.toNat
  f0 : 0 ≤ k.fil.getD m 0
  f1 : k.fil.getD m 0 < p
  eq : r.pg = (m : Int) * p + k.fil.getD m 0
  st : k.stamp ≤ r.st
  nm : 0 ≤ r.nm ∧ r.nm ≤ 64
structure Laid (b p : Int) (rows : List Row) (q : Pc) : Prop where
  hb : HandB q (kAll b p rows)
  qb : q.b = b
  qp : q.p = p
  row : ∀ i r, rows[i]? = some r → ∃ m, RowAt b p (kAll b p (rows.take i)) r m
  ct : ∀ r ∈ rows, 0 ≤ r.pg ∧ q.ct.getD r.pg.toNat none = some (My.mk r.st r.nm, r.v)
  lg : q.log.length = rows.length
  cov : ∀ i, wrC q.ct i → ∃ r ∈ rows, r.pg = (i : Int)
theorem Laid.new {b p m : Int} (hb : 2 ≤ b ∧ b ≤ 16) (hp : 1 ≤ p ∧ p ≤ 16) : Laid b p [] (Pc.new b p m (List.replicate b.toNat .non)) :=
  ⟨HandB.new hb hp, rfl, rfl, fun i r h => by simp at h, fun r h => (by cases h), rfl, fun i h => by
    unfold wrC at h
    rw [show (Pc.new b p m (List.replicate b.toNat .non)).ct = List.replicate (b * p).toNat none from rfl, List.getD_eq_getElem?_getD, List.getElem?_replicate] at h
    split at h
    · exact absurd rfl h
    · exact absurd rfl h⟩
theorem Laid.put {b p : Int} {rows : List Row} {q : Pc} (h : Laid b p rows q) {m : Nat} {x n v : Int} (hm : m < b.toNat) (hf : (kAll b p rows).fil.getD m 0 < p) (hx : (kAll b p rows).stamp ≤ x) (hx2 : x + 1 < 10 ^ 40) (hn : 0 ≤ n ∧ n ≤ 64) (hv : 0 ≤ v ∧ v < 10 ^ 30 ∧ (n = 64 → v < 2 ^ 64)) :
    (q.putP ((m : Int) * p + (kAll b p rows).fil.getD m 0) (My.mk x n, v)).1 = none ∧ Laid b p (rows ++ [⟨x, (m : Int) * p + (kAll b p rows).fil.getD m 0, n, v⟩]) (q.putP ((m : Int) * p + (kAll b p rows).fil.getD m 0) (My.mk x n, v)).2 := by
  have hqb := h.qb
  have hqp := h.qp
  have hm' : m < q.b.toNat := by rw [hqb]; exact hm
  have hf' : (kAll b p rows).fil.getD m 0 < q.p := by rw [hqp]; exact hf
  obtain ⟨e1, e2⟩ := h.hb.put hm' hf' hx hx2 hn hv
  obtain ⟨⟨g0, g1⟩, gn, gb⟩ := h.hb.page hm' hf'
  have P := h.hb.pl hm' hf' hx hn hv
  have hfr := P.free
  have hln := P.len
  rw [← gn] at hfr hln
  rw [hqp] at e1 e2 g0 g1 gn gb hfr hln
  refine ⟨e1, by rw [kAll_snoc]; exact e2, putP_bp.1.trans hqb, putP_bp.2.trans hqp, fun i r hi => ?_, fun r hr => ?_, ?_, fun i hi => ?_⟩
  · by_cases hl : i < rows.length
    · rw [List.getElem?_append_left hl] at hi
      rw [List.take_append_of_le_length (by omega)]
      exact h.row i r hi
    · have e : i = rows.length := by
        have := (List.getElem?_eq_some_iff.mp hi).1
        rw [List.length_append, List.length_singleton] at this
        omega
      subst e
      rw [List.getElem?_append_right (Nat.le_refl _), Nat.sub_self] at hi
      cases hi
      rw [List.take_append_of_le_length (Nat.le_refl _), List.take_length]
      exact ⟨m, hm, (h.hb.wf.fil m).1, hf, rfl, hx, hn⟩
  · rw [h.hb.fn.put]
    show _ ∧ (q.ct.set _ _).getD _ none = _
    rw [getD_set hln]
    rcases List.mem_append.mp hr with hr | hr
    · obtain ⟨c0, c1⟩ := h.ct r hr
      refine ⟨c0, ?_⟩
      rw [if_neg (fun z => ?_)]
      · exact c1
      · rw [z] at c1
        exact hfr (by unfold wrC; rw [c1]; exact fun y => by cases y)
    · rw [List.mem_singleton.mp hr]
      exact ⟨g0, by rw [if_pos rfl]⟩
  · rw [h.hb.fn.put]
    show (q.log ++ [_]).length = _
    rw [List.length_append, List.length_append, h.lg]
    rfl
  · by_cases z : i = ((m : Int) * p + (kAll b p rows).fil.getD m 0).toNat
    · exact ⟨_, List.mem_append_right _ List.mem_cons_self, by show (m : Int) * p + (kAll b p rows).fil.getD m 0 = _; rw [z, Int.toNat_of_nonneg g0]⟩
    · rw [h.hb.fn.put] at hi
      have hi : (q.ct.set ((m : Int) * p + (kAll b p rows).fil.getD m 0).toNat _).getD i none ≠ none := hi
      rw [getD_set hln, if_neg z] at hi
      obtain ⟨r, hr, e⟩ := h.cov i hi
      exact ⟨r, List.mem_append_left _ hr, e⟩
theorem note_fil_at {b p : Int} {k : Bk} {r : Row} {m : Nat} (h : RowAt b p k r m) (hkp : k.p = p) (hfl : (k.fil.length : Int) = b) : (noteR k r).fil = k.fil.set m (k.fil.getD m 0 + 1) ∧ r.pg / p = (m : Int) ∧ (r.pg % p = 0 ↔ k.fil.getD m 0 = 0) ∧ (noteR k r).stamp = r.st + 1 := by
  have f0 := h.f0
  have f1 := h.f1
  have e := h.eq
  have hp0 : 0 < p := by omega
  have hd : r.pg / p = (m : Int) := by
    rw [e, Int.add_comm, Int.add_mul_ediv_right _ _ (by omega), Int.ediv_eq_zero_of_lt f0 f1, Int.zero_add]
  have hmod : r.pg % p = k.fil.getD m 0 := by
    rw [e, Int.add_comm, Int.add_mul_emod_self_right]
    exact Int.emod_eq_of_lt f0 f1
  refine ⟨?_, hd, by rw [hmod], ?_⟩
  · unfold noteR
    rw [noteA_fil, hkp, hd, Int.toNat_natCast]
  · exact noteA_st
theorem nodup_subH {α : Type} [DecidableEq α] : ∀ {l l' : List α}, l.Nodup → (∀ x ∈ l, x ∈ l') → l.length ≤ l'.length
  | [], _, _, _ => Nat.zero_le _
  | a :: l, l', h, s => by
    rw [List.nodup_cons] at h
    have h1 := nodup_subH (l := l) (l' := l'.erase a) h.2 fun x hx => (List.mem_erase_of_ne (fun z => h.1 (by rw [← z]; exact hx))).mpr (s x (List.mem_cons_of_mem _ hx))
    have h2 := List.length_erase_of_mem (s a List.mem_cons_self)
    have h3 := List.length_pos_of_mem (s a List.mem_cons_self)
    rw [List.length_cons]
    omega
theorem Laid.few {b p : Int} {rows : List Row} {q : Pc} (h : Laid b p rows q) : (rowsC q.ct).length ≤ rows.length := by
  have e : ((rowsC q.ct).map Row.pg).length ≤ (rows.map Row.pg).length := by
    refine nodup_subH ?_ fun x hx => ?_
    · refine List.pairwise_map.mpr ?_
      unfold rowsC
      refine List.pairwise_filterMap.mpr (List.Pairwise.imp (fun {i j} hij a ha b hb e => ?_) List.nodup_range)
      obtain ⟨_, _, e1, _⟩ := rowC_some ha
      obtain ⟨_, _, e2, _⟩ := rowC_some hb
      rw [e1, e2] at e
      exact hij (Int.ofNat_inj.mp e)
    · obtain ⟨r, hr, rfl⟩ := List.mem_map.mp hx
      unfold rowsC at hr
      obtain ⟨i, _, e⟩ := List.mem_filterMap.mp hr
      obtain ⟨w, _, e1, _⟩ := rowC_some e
      obtain ⟨r', hr', e'⟩ := h.cov i w
      exact List.mem_map.mpr ⟨r', hr', by rw [e', e1]⟩
  rw [List.length_map, List.length_map] at e
  exact e
theorem kAll_key {b p n : Int} {rows : List Row} (h : ∀ r ∈ rows, r.nm ≠ n) : getI (kAll b p rows).wh n = none := by
  have key : ∀ (l : List Row) (k : Bk), getI k.wh n = none → (∀ r ∈ l, r.nm ≠ n) → getI (l.foldl noteR k).wh n = none := fun l => by
    induction l with
    | nil => exact fun k h _ => h
    | cons r l ih =>
      intro k hk hl
      rw [List.foldl_cons]
      refine ih _ ?_ fun x hx => hl x (List.mem_cons_of_mem _ hx)
      unfold noteR
      rw [noteA_wh, if_neg (fun z => hl r List.mem_cons_self z.symm)]
      exact hk
  exact key rows _ rfl h
/-- without rolls all names stay -/
theorem Laid.rb {b p : Int} {rows : List Row} {q : Pc} (h : Laid b p rows q) (hn : ∀ r ∈ rows, r.nm < 64) {pp : List Pap} {R : Rl} : RbS ⟨q, kAll b p rows, pp, R⟩ := by
  have k0 : getI (kAll b p rows).wh 64 = none := kAll_key fun r hr z => by have := hn r hr; omega
  refine ⟨h.hb.rb, fun i hi hg => absurd hg (h.hb.al i hi), fun n pg rp _ _ hr _ => ?_⟩
  rw [k0] at hr
  cases hr
/-! ### a law's rows of pages laid by hand, and what is due -/
theorem Laid.nk {b p : Int} {rows : List Row} {q : Pc} (h : Laid b p rows q) : (kAll b p rows).b = b ∧ (kAll b p rows).p = p := ⟨h.hb.wf.kb.trans h.qb, h.hb.wf.kp.trans h.qp⟩
theorem kAll_len {b p : Int} : ∀ {rows : List Row}, (kAll b p rows).fil.length = b.toNat ∧ (kAll b p rows).born.length = b.toNat ∧ (kAll b p rows).live.length = b.toNat := fun {rows} => by
  have key : ∀ (l : List Row) (k : Bk), (l.foldl noteR k).fil.length = k.fil.length ∧ (l.foldl noteR k).born.length = k.born.length ∧ (l.foldl noteR k).live.length = k.live.length := fun l => by
    induction l with
    | nil => exact fun k => ⟨rfl, rfl, rfl⟩
    | cons r l ih =>
      intro k
      rw [List.foldl_cons]
      obtain ⟨a, b, c⟩ := ih (noteR k r)
      refine ⟨a.trans ?_, b.trans ?_, c.trans ?_⟩
      · unfold noteR; rw [noteA_fil, List.length_set]
      · unfold noteR; rw [noteA_born]; split
        · rw [List.length_set]
        · rfl
      · unfold noteR Bk.note Bk.drop Bk.at
        dsimp only
        split <;> simp
  have := key rows (Bk.new b p)
  refine ⟨this.1.trans ?_, this.2.1.trans ?_, this.2.2.trans ?_⟩ <;> exact List.length_replicate
/-! ### pages laid by hand, with rolls: what is held -/
theorem Rb0.drop2 {c : Ct} {k : Bk} {n a pg : Int} (h : Rb0 c k) (ha : getI k.wh a = some pg) (hs : stC c pg.toNat = k.stamp - 1) (hn : a ≠ n) : Rb0 c (k.drop n) ∧ getI (k.drop n).wh a = some pg ∧ stC c pg.toNat = (k.drop n).stamp - 1 := by
  have e : getI (k.drop n).wh a = some pg := by rw [drop_wh, if_neg hn]; exact ha
  have e2 : stC c pg.toNat = (k.drop n).stamp - 1 := by rw [drop_st]; exact hs
  refine ⟨⟨by rw [drop_st]; exact h.rng, h.inj, h.srt.sublist drop_sub, fun a pg hg => ?_, by rw [drop_b, drop_p, drop_fil]; exact h.fil, by rw [drop_b, drop_p, drop_fil, drop_bn]; exact h.born, by rw [drop_b, drop_p]; exact h.asc, .inr ⟨a, pg, e, e2⟩⟩, e, e2⟩
  rw [drop_wh] at hg
  split at hg
  · cases hg
  · exact h.wr _ _ hg
theorem Rb0.drops2 {c : Ct} {a pg : Int} : ∀ {l : List Int} {k : Bk}, Rb0 c k → getI k.wh a = some pg → stC c pg.toNat = k.stamp - 1 → a ∉ l → Rb0 c (k.drops l)
  | [], _, h, _, _, _ => h
  | n :: l, k, h, ha, hs, hn => by
    obtain ⟨h1, h2, h3⟩ := h.drop2 ha hs (fun z => hn (by rw [z]; exact List.mem_cons_self))
    exact Rb0.drops2 (l := l) (k := k.drop n) h1 h2 h3 fun m => hn (List.mem_cons_of_mem _ m)
def rollQ (c : Ct) (k : Bk) : Int × Int := match getI k.wh 64 with
  | none => (0, 0)
  | some rp => (stC c rp.toNat, vlC c rp.toNat)
def keptB (c : Ct) (k : Bk) (e : Int × Int) : Bool := decide (e.1 = 64) || (decide ((rollQ c k).1 < stC c e.2.toNat) || bitZ (rollQ c k).2 e.1)
def lostL (c : Ct) (k : Bk) : List Int := (k.wh.filter fun e => !keptB c k e).map (·.1)
def realB (c : Ct) (k : Bk) : Bk := k.drops (lostL c k)
theorem lost_mem {c : Ct} {k : Bk} (hk : (k.wh.map (·.1)).Nodup) {n pg : Int} (h : getI k.wh n = some pg) : n ∈ lostL c k ↔ keptB c k (n, pg) = false := by
  unfold lostL
  rw [List.mem_map]
  constructor
  · rintro ⟨e, he, rfl⟩
    obtain ⟨a, b⟩ := List.mem_filter.mp he
    have := getI_of_mem hk (n := e.1) (x := e.2) a
    rw [h] at this
    have e2 : pg = e.2 := Option.some.inj this
    rw [e2]
    simpa using b
  · intro hb
    exact ⟨(n, pg), List.mem_filter.mpr ⟨getI_mem h, by rw [hb]; rfl⟩, rfl⟩
theorem lost_key {c : Ct} {k : Bk} {n : Int} (h : n ∈ lostL c k) : ∃ pg, (n, pg) ∈ k.wh := by
  obtain ⟨e, he, rfl⟩ := List.mem_map.mp h
  exact ⟨e.2, (List.mem_filter.mp he).1⟩
theorem real_wh {c : Ct} {k : Bk} (hk : (k.wh.map (·.1)).Nodup) (n : Int) : getI (realB c k).wh n = match getI k.wh n with
    | none => none
    | some pg => if keptB c k (n, pg) = true then some pg else none := by
  unfold realB
  rw [drops_whR]
  cases h : getI k.wh n with
  | none => split <;> rfl
  | some pg =>
    dsimp only
    by_cases hk2 : keptB c k (n, pg) = true
    · rw [if_neg (fun z => by rw [(lost_mem hk h).mp z] at hk2; cases hk2), if_pos hk2]
    · rw [if_pos ((lost_mem hk h).mpr (by simpa using hk2)), if_neg hk2]
section
variable {q : Pc} {k : Bk}
theorem HandB.newest (h : HandB q k) (hne : ¬ ∀ i, ¬ wrC q.ct i) : ∃ a pg, getI k.wh a = some pg ∧ stC q.ct pg.toNat = k.stamp - 1 ∧ keptB q.ct k (a, pg) = true := by
  rcases h.rb.last with ⟨_, z⟩ | ⟨a, pg, z1, z2⟩
  · exact absurd z hne
  refine ⟨a, pg, z1, z2, ?_⟩
  unfold keptB rollQ
  by_cases ha : a = 64
  · simp [ha]
  rw [Bool.or_eq_true]
  right
  rw [Bool.or_eq_true]
  left
  refine decide_eq_true ?_
  obtain ⟨w1, w2, w3⟩ := h.rb.wr _ _ z1
  have r1 := h.rb.rng _ w1
  cases hr : getI k.wh 64 with
  | none => show (0 : Int) < stC q.ct pg.toNat; omega
  | some rp =>
    show stC q.ct rp.toNat < stC q.ct pg.toNat
    obtain ⟨v1, v2, v3⟩ := h.rb.wr _ _ hr
    have r2 := h.rb.rng _ v1
    have : stC q.ct rp.toNat ≠ stC q.ct pg.toNat := fun z => by
      have := h.rb.inj _ _ v1 w1 z
      rw [this, w2] at v2
      exact ha v2
    omega
theorem HandB.real (h : HandB q k) : Wf q (realB q.ct k) ∧ Rb0 q.ct (realB q.ct k) ∧ Roll q.ct (realB q.ct k) := by
  have hk := h.wf.keys
  refine ⟨h.wf.drops, ?_, ?_, ?_⟩
  · by_cases hne : ∀ i, ¬ wrC q.ct i
    · have e : lostL q.ct k = [] := List.eq_nil_iff_forall_not_mem.mpr fun n hn => by
        obtain ⟨pg, hp⟩ := lost_key hn
        exact hne _ (h.rb.wr _ _ (getI_of_mem hk hp)).1
      unfold realB
      rw [e]
      exact h.rb
    · obtain ⟨a, pg, z1, z2, z3⟩ := h.newest hne
      refine Rb0.drops2 h.rb z1 z2 fun m => ?_
      rw [(lost_mem hk z1).mp m] at z3
      cases z3
  · intro i hi hg
    cases hx : getI k.wh (nmC q.ct i) with
    | none => exact absurd hx (h.al i hi)
    | some pg =>
      rw [real_wh hk, hx] at hg
      dsimp only at hg
      have hkf : keptB q.ct k (nmC q.ct i, pg) = false := by
        cases hb : keptB q.ct k (nmC q.ct i, pg) with
        | false => rfl
        | true => rw [if_pos hb] at hg; cases hg
      have hkf0 := hkf
      unfold keptB at hkf
      rw [Bool.or_eq_false_iff, Bool.or_eq_false_iff] at hkf
      obtain ⟨f1, f2, f3⟩ := hkf
      have f1 : nmC q.ct i ≠ 64 := of_decide_eq_false f1
      have f2 : ¬ (rollQ q.ct k).1 < stC q.ct pg.toNat := of_decide_eq_false f2
      obtain ⟨w1, w2, w3⟩ := h.rb.wr _ _ hx
      have r1 := h.rb.rng _ w1
      unfold rollQ at f2 f3
      cases hr : getI k.wh 64 with
      | none =>
        rw [hr] at f2
        have f2 : ¬ (0 : Int) < stC q.ct pg.toNat := f2
        omega
      | some rp =>
        rw [hr] at f2 f3
        have f2 : ¬ stC q.ct rp.toNat < stC q.ct pg.toNat := f2
        obtain ⟨v1, v2, v3⟩ := h.rb.wr _ _ hr
        have : stC q.ct rp.toNat ≠ stC q.ct pg.toNat := fun z => by
          have := h.rb.inj _ _ v1 w1 z
          rw [this, w2] at v2
          exact f1 v2
        have := w3 i hi rfl
        refine ⟨rp, ?_, by omega, f3⟩
        rw [real_wh hk, hr]
        show (if keptB q.ct k (64, rp) = true then _ else _) = _
        rw [if_pos (by unfold keptB; rfl)]
  · intro n pg rp hg hn hr hlt
    rw [real_wh hk] at hg hr
    cases hx : getI k.wh n with
    | none => rw [hx] at hg; cases hg
    | some pg' =>
      cases hy : getI k.wh 64 with
      | none => rw [hy] at hr; cases hr
      | some rp' =>
        rw [hx] at hg
        rw [hy] at hr
        dsimp only at hg hr
        by_cases hb : keptB q.ct k (n, pg') = true
        · rw [if_pos hb] at hg
          cases hg
          have hrp : rp' = rp := by
            split at hr
            · exact Option.some.inj hr
            · cases hr
          subst hrp
          unfold keptB rollQ at hb
          rw [hy] at hb
          rw [Bool.or_eq_true, Bool.or_eq_true] at hb
          rcases hb with hb | hb | hb
          · exact absurd (of_decide_eq_true hb) hn
          · have : stC q.ct rp'.toNat < stC q.ct pg.toNat := of_decide_eq_true hb
            omega
          · exact hb
        · rw [if_neg hb] at hg
          cases hg
theorem HandB.rbS (h : HandB q k) {pp : List Pap} {R : Rl} : RbS ⟨q, realB q.ct k, pp, R⟩ := ⟨h.real.2.1, h.real.2.2⟩
end
/-- a laid row's page -/
theorem Laid.page {b p : Int} {rows : List Row} {q : Pc} (h : Laid b p rows q) {r : Row} (hr : r ∈ rows) (hn : 0 ≤ r.nm ∧ r.nm ≤ 64) : stC q.ct r.pg.toNat = r.st ∧ nmC q.ct r.pg.toNat = r.nm ∧ vlC q.ct r.pg.toNat = r.v := by
  have e := (h.ct r hr).2
  unfold stC nmC vlC
  rw [e]
  have := mk_st (st := r.st) (n := r.nm) hn
  exact ⟨this.1, this.2, rfl⟩
/-! ### dicts from names to rows -/
def q3 (r : Row) : List Int := [r.st, r.pg, r.v]
def fZ (zs : List V) : Int → V := fun i => zs.getD i.toNat .non
theorem kvF_ext {zs : List V} {z : V} {kv : List (Int × Int)} (h : ∀ e ∈ kv, 0 ≤ e.2 ∧ e.2 < (zs.length : Int)) : kvF (fZ (zs ++ [z])) kv = kvF (fZ zs) kv := by
  unfold kvF
  refine List.map_congr_left fun e he => ?_
  have := h e he
  unfold fZ
  rw [List.getD_eq_getElem?_getD, List.getD_eq_getElem?_getD, List.getElem?_append_left (by omega)]
def rowI (rows : List Row) (i : Int) : Row := rows.getD i.toNat ⟨0, 0, 0, 0⟩
theorem rowI_get {rows : List Row} {i : Int} {r : Row} (h : rows[i.toNat]? = some r) : rowI rows i = r := by unfold rowI; rw [List.getD_eq_getElem?_getD, h]; rfl
/-- a dict from names to their rows -/
structure NewI (rows : List Row) (kv : List (Int × Int)) : Prop where
  nd : (kv.map (·.1)).Nodup
  idx : ∀ e ∈ kv, 0 ≤ e.2 ∧ ∃ r, rows[e.2.toNat]? = some r ∧ r.nm = e.1 ∧ (0 ≤ e.1 ∧ e.1 < 64)
theorem NewI.len {rows : List Row} {kv : List (Int × Int)} (h : NewI rows kv) : ∀ e ∈ kv, 0 ≤ e.2 ∧ e.2 < (rows.length : Int) := fun e he => by
  obtain ⟨h0, r, hr, _⟩ := h.idx e he
  have := (List.getElem?_eq_some_iff.mp hr).1
  omega
theorem NewI.get {rows : List Row} {kv : List (Int × Int)} (h : NewI rows kv) {n i : Int} (hg : getI kv n = some i) : 0 ≤ i ∧ ∃ r, rows[i.toNat]? = some r ∧ r.nm = n ∧ (0 ≤ n ∧ n < 64) := h.idx (n, i) (getI_mem hg)
theorem rowI_app {l : List Row} {r : Row} {j : Int} {x : Row} (h : l[j.toNat]? = some x) : rowI (l ++ [r]) j = rowI l j := by
  have := (List.getElem?_eq_some_iff.mp h).1
  unfold rowI
  rw [List.getD_eq_getElem?_getD, List.getD_eq_getElem?_getD, List.getElem?_append_left this]
theorem NewI.snoc {l : List Row} {r : Row} {kv : List (Int × Int)} (h : NewI l kv) : NewI (l ++ [r]) kv := ⟨h.nd, fun e he => by
  obtain ⟨h0, x, hx, h1⟩ := h.idx e he
  exact ⟨h0, x, by rw [List.getElem?_append_left (List.getElem?_eq_some_iff.mp hx).1]; exact hx, h1⟩⟩
theorem NewI.put {l : List Row} {r : Row} {kv : List (Int × Int)} (h : NewI l kv) (hn : 0 ≤ r.nm ∧ r.nm < 64) : NewI (l ++ [r]) (putI kv r.nm (l.length : Int)) := by
  refine ⟨put_nodup h.nd, fun e he => ?_⟩
  have hg := getI_of_mem (put_nodup h.nd) (n := e.1) (x := e.2) he
  rw [getI_put] at hg
  by_cases z : e.1 = r.nm
  · rw [if_pos z] at hg
    have e2 : e.2 = (l.length : Int) := (Option.some.inj hg).symm
    refine ⟨by omega, r, ?_, z.symm, by omega⟩
    rw [e2, Int.toNat_natCast, List.getElem?_append_right (Nat.le_refl _), Nat.sub_self]
    rfl
  · rw [if_neg z] at hg
    exact h.snoc.idx _ (getI_mem hg)
theorem bit_dec {v n : Int} (hv : 0 ≤ v) : decide (Builtin.bitAnd (v / 2 ^ n.toNat) 1 = 1) = bitZ v n := by
  obtain ⟨x, rfl⟩ := Int.eq_ofNat_of_zero_le hv
  have e : ((x : Int) / 2 ^ n.toNat) = ((x / 2 ^ n.toNat : Nat) : Int) := by rw [Int.natCast_ediv, Int.natCast_pow]; rfl
  rw [e, and_one]
  unfold bitZ
  rw [Int.toNat_natCast, Nat.testBit_eq_decide_div_mod_eq, decide_eq_decide]
  omega
--#CUT
/-! ### a law's mix of a cell -/
def mixM (c k : Int) : Int := (c % 2147483647 + 7919 * k + 17) * 48271 % 2147483647
def mixI (c k : Int) : Int := mixM c k * mixM c k % 1000003
theorem mix_rng {c k : Int} : 0 ≤ mixI c k ∧ mixI c k < 1000003 := ⟨Int.emod_nonneg _ (by decide), Int.emod_lt_of_pos _ (by decide)⟩
def spMix : Sp := fun vs H Q _ => ∃ (c k : Int), vs = [.int c, .int k] ∧ (0 ≤ k ∧ k ≤ 1000000) ∧ Q (.int (mixI c k)) H
theorem x_mix2 {H : Hp} {Q : VK} {E : XK} {c k : Int} (q : Q (.int (mixI c k)) H) (hk : 0 ≤ k ∧ k ≤ 1000000) : spMix [.int c, .int k] H Q E := ⟨c, k, rfl, hk, q⟩
theorem ok_mix (T : Txt K mg) : FO P w K mg base 1 T.a__law_mix T.fd__law_mix ["_law_cell", "_law_k"] spMix := by
  have sc := sc__law_mix
  refine T.F__law_mix.okX sc (fun vs H Q E h => ?_) (fun cdv A outer s H vs Q E hr h => ?_)
  · obtain ⟨_, _, rfl, _⟩ := h
    rfl
  obtain ⟨c, k, rfl, hk, q⟩ := h
  refine ⟨_, (pss_cons (ps_set (i := 2) sc.nd rfl (by first | exact Or.inl rfl | exact Or.inr rfl) (pe_op op_mod (pe_op op_uMul (pe_op op_uAdd (pe_op op_uAdd (pe_op op_mod (pv 0) pe_int) (pe_op op_uMul pe_int (pv 1))) pe_int) pe_int) pe_int))
      (pss_one (ps_ret (pe_op op_mod (pe_op op_uMul (pv 2) (pv 2)) pe_int)))), ?_⟩
  have h1 : 0 ≤ c % 2147483647 ∧ c % 2147483647 < 2147483647 := ⟨Int.emod_nonneg _ (by decide), Int.emod_lt_of_pos _ (by decide)⟩
  have h2 : 0 ≤ mixM c k ∧ mixM c k < 2147483647 := ⟨Int.emod_nonneg _ (by decide), Int.emod_lt_of_pos _ (by decide)⟩
  unfold mixI mixM at q
  unfold mixM at h2
  walk_at "begin"
  walk_at "go"
  exact q
local macro_rules | `(tactic| walk_at "u") => `(tactic| ((with_reducible refine x_mix2 ?_ ?hs); (try (case hs => walk_at "side"))))
/-! ### a law's own look at a chip's pages -/
def r4n (r : Row) : List Int := [r.st, r.nm, r.pg, r.v]
def u4n (l : List Int) : Row := ⟨l.getD 0 0, l.getD 2 0, l.getD 1 0, l.getD 3 0⟩
theorem r4n_bd {q : Pc} (h : RowOk q) (hbp : q.b * q.p ≤ 256) : ∀ e ∈ (rowsC q.ct).map r4n, e.length = 4 ∧ TS.Bd (10 ^ 50) e := fun e he => by
  obtain ⟨r, hr, rfl⟩ := List.mem_map.mp he
  refine ⟨rfl, fun m hm => ?_⟩
  have := rowOk_row h hr
  unfold r4n at hm
  simp only [List.mem_cons, List.not_mem_nil, or_false] at hm
  rcases hm with rfl | rfl | rfl | rfl <;> omega
theorem RowOk.sorted4 {q : Pc} (h : RowOk q) (hbp : q.b * q.p ≤ 256) {ls : List (List Int)} (hp : ls.Perm ((rowsC q.ct).map r4n)) (hs : ls.Pairwise fun a b => TS.code (10 ^ 50) a ≤ TS.code (10 ^ 50) b) : ls = (rowsQ q.ct).map r4n := by
  have bd : ∀ e ∈ ls, (∃ r, e = r4n r) ∧ TS.Bd (10 ^ 50) e := fun e he => by
    have hm := hp.mem_iff.mp he
    obtain ⟨r, hr, rfl⟩ := List.mem_map.mp hm
    exact ⟨⟨r, rfl⟩, (r4n_bd h hbp _ hm).2⟩
  have e1 : (ls.map u4n).map r4n = ls := by
    rw [List.map_map]
    refine (List.map_congr_left fun e he => ?_).trans (List.map_id ls)
    obtain ⟨⟨r, rfl⟩, _⟩ := bd e he
    rfl
  have p1 : (ls.map u4n).Perm (rowsQ q.ct) := by
    have := hp.map u4n
    rw [List.map_map, show u4n ∘ r4n = id from rfl, List.map_id] at this
    exact this.trans (List.mergeSort_perm _ _).symm
  have s1 : (ls.map u4n).Pairwise fun a b => a.st ≤ b.st := by
    refine List.pairwise_map.mpr (List.Pairwise.imp_of_mem (fun {a b} ha hb z => ?_) hs)
    obtain ⟨⟨r, rfl⟩, b1⟩ := bd a ha
    obtain ⟨⟨r', rfl⟩, b2⟩ := bd b hb
    show r.st ≤ r'.st
    have := code_cons (B := 10 ^ 50) (d := r.st) (e := r'.st) (r := [r.nm, r.pg, r.v]) (q := [r'.nm, r'.pg, r'.v]) rfl b1 b2 z
    omega
  have ne := rows_inj h.inj
  have n1 : (ls.map u4n).Pairwise fun a b => a.st ≠ b.st := (List.Perm.pairwise_iff (fun {a b} z y => z y.symm) (p1.trans (List.mergeSort_perm _ _))).mpr ne
  have n2 : (rowsQ q.ct).Pairwise fun a b => a.st ≠ b.st := (List.Perm.pairwise_iff (fun {a b} z y => z y.symm) (List.mergeSort_perm _ _)).mpr ne
  have s2 : (rowsQ q.ct).Pairwise fun a b => decide (a.st ≤ b.st) = true := List.pairwise_mergeSort (le := fun a b : Row => decide (a.st ≤ b.st)) (fun a b c z y => decide_eq_true (Int.le_trans (of_decide_eq_true z) (of_decide_eq_true y))) (fun a b => by
    rcases Int.le_total a.st b.st with z | z
    · rw [decide_eq_true z]; rfl
    · rw [decide_eq_true z, Bool.or_true]) _
  rw [← e1]
  congr 1
  refine List.Perm.eq_of_pairwise (le := fun a b : Row => a.st < b.st) (fun a b _ _ h1 h2 => by omega) ((s1.and n1).imp fun {a b} z => by omega) ((s2.and n2).imp fun {a b} z => ?_) p1
  have := of_decide_eq_true z.1
  have := z.2
  omega
theorem rowsQ_asc {q : Pc} (h : RowOk q) : (rowsQ q.ct).Pairwise fun a b => a.st < b.st := by
  have ne := rows_inj h.inj
  have n2 : (rowsQ q.ct).Pairwise fun a b => a.st ≠ b.st := (List.Perm.pairwise_iff (fun {a b} z y => z y.symm) (List.mergeSort_perm _ _)).mpr ne
  have s2 : (rowsQ q.ct).Pairwise fun a b => decide (a.st ≤ b.st) = true := List.pairwise_mergeSort (le := fun a b : Row => decide (a.st ≤ b.st)) (fun a b c z y => decide_eq_true (Int.le_trans (of_decide_eq_true z) (of_decide_eq_true y))) (fun a b => by
    rcases Int.le_total a.st b.st with z | z
    · rw [decide_eq_true z]; rfl
    · rw [decide_eq_true z, Bool.or_true]) _
  refine (s2.and n2).imp fun {a b} z => ?_
  have := of_decide_eq_true z.1
  have := z.2
  omega
/-- the newest row of each name, among rising rows -/
structure NewL (rows : List Row) (kv : List (Int × Int)) : Prop where
  ni : NewI rows kv
  last : ∀ r ∈ rows, r.nm ≠ 64 → ∃ i, getI kv r.nm = some i ∧ r.st ≤ (rowI rows i).st
def RolL (rows : List Row) (st v : Int) : Prop := (st = 0 ∧ v = 0 ∧ ∀ r ∈ rows, r.nm ≠ 64) ∨ ∃ r ∈ rows, r.nm = 64 ∧ st = r.st ∧ v = r.v ∧ ∀ x ∈ rows, x.nm = 64 → x.st ≤ r.st
theorem RolL.snoc {l : List Row} {r : Row} {st v : Int} (h : RolL l st v) (hn : r.nm ≠ 64) : RolL (l ++ [r]) st v := by
  rcases h with ⟨a, b, c⟩ | ⟨x, hx, a, b, c, d⟩
  · exact .inl ⟨a, b, fun y hy => (List.mem_append.mp hy).elim (c y) fun z => by rw [List.mem_singleton.mp z]; exact hn⟩
  · exact .inr ⟨x, List.mem_append_left _ hx, a, b, c, fun y hy hy64 => (List.mem_append.mp hy).elim (fun z => d y z hy64) fun z => absurd (by rw [← List.mem_singleton.mp z]; exact hy64) hn⟩
theorem RolL.roll {l : List Row} {r : Row} (hn : r.nm = 64) (ha : ∀ x ∈ l, x.st < r.st) : RolL (l ++ [r]) r.st r.v :=
  .inr ⟨r, List.mem_append_right _ List.mem_cons_self, hn, rfl, rfl, fun y hy _ => (List.mem_append.mp hy).elim (fun z => Int.le_of_lt (ha y z)) fun z => by rw [List.mem_singleton.mp z]; exact Int.le_refl _⟩
theorem NewL.snoc {l : List Row} {r : Row} {kv : List (Int × Int)} (h : NewL l kv) (hn : r.nm = 64) : NewL (l ++ [r]) kv := by
  refine ⟨h.ni.snoc, fun x hx h64 => ?_⟩
  rcases List.mem_append.mp hx with hx | hx
  · obtain ⟨i, hi, hle⟩ := h.last x hx h64
    obtain ⟨_, y, hy, _⟩ := h.ni.get hi
    exact ⟨i, hi, by rw [rowI_app hy]; exact hle⟩
  · rw [List.mem_singleton.mp hx] at h64
    exact absurd hn h64
theorem NewL.put {l : List Row} {r : Row} {kv : List (Int × Int)} (h : NewL l kv) (hn : 0 ≤ r.nm ∧ r.nm < 64) (ha : ∀ x ∈ l, x.st < r.st) : NewL (l ++ [r]) (putI kv r.nm (l.length : Int)) := by
  have hat : rowI (l ++ [r]) (l.length : Int) = r := rowI_get (by rw [Int.toNat_natCast, List.getElem?_append_right (Nat.le_refl _), Nat.sub_self]; rfl)
  refine ⟨h.ni.put hn, fun x hx h64 => ?_⟩
  by_cases z : x.nm = r.nm
  · refine ⟨_, by rw [getI_put, if_pos z], ?_⟩
    rw [hat]
    rcases List.mem_append.mp hx with hx | hx
    · exact Int.le_of_lt (ha x hx)
    · rw [List.mem_singleton.mp hx]; exact Int.le_refl _
  · rcases List.mem_append.mp hx with hx | hx
    · obtain ⟨i, hi, hle⟩ := h.last x hx h64
      obtain ⟨_, y, hy, _⟩ := h.ni.get hi
      exact ⟨i, by rw [getI_put, if_neg z]; exact hi, by rw [rowI_app hy]; exact hle⟩
    · rw [List.mem_singleton.mp hx] at z
      exact absurd rfl z
/-- a tuple for each row but the rolls -/
def ZsL (H : Hp) (zs : List V) (rows : List Row) : Prop := zs.length = rows.length ∧ ∀ (i : Nat) (r : Row), rows[i]? = some r → r.nm ≠ 64 → ∃ t : Addr, zs[i]? = some (.ref t) ∧ H t = some (.tup [.int r.st, .int r.pg, .int r.v])
theorem ZsL.mono {H H' : Hp} {zs : List V} {rows : List Row} (s : TupS H H') (h : ZsL H zs rows) : ZsL H' zs rows := ⟨h.1, fun i r hr hn => by
  obtain ⟨t, a, b⟩ := h.2 i r hr hn
  exact ⟨t, a, s _ _ b⟩⟩
theorem ZsL.nil {H : Hp} : ZsL H [] [] := ⟨rfl, fun i r h _ => by simp at h⟩
theorem ZsL.snoc {H : Hp} {zs : List V} {rows : List Row} {z : V} {r : Row} (h : ZsL H zs rows) (hz : r.nm ≠ 64 → ∃ t, z = .ref t ∧ H t = some (.tup [.int r.st, .int r.pg, .int r.v])) : ZsL H (zs ++ [z]) (rows ++ [r]) := by
  refine ⟨by rw [List.length_append, List.length_append, h.1]; rfl, fun i x hx hn => ?_⟩
  by_cases hi : i < rows.length
  · rw [List.getElem?_append_left hi] at hx
    rw [List.getElem?_append_left (by rw [h.1]; exact hi)]
    exact h.2 i x hx hn
  · have e : i = rows.length := by
      have := (List.getElem?_eq_some_iff.mp hx).1
      rw [List.length_append, List.length_singleton] at this
      omega
    subst e
    rw [List.getElem?_append_right (Nat.le_refl _), Nat.sub_self] at hx
    cases hx
    obtain ⟨t, rfl, ht⟩ := hz hn
    rw [List.getElem?_append_right (by rw [h.1]; exact Nat.le_refl _), h.1, Nat.sub_self]
    exact ⟨t, rfl, ht⟩
theorem ZsL.get {H : Hp} {zs : List V} {rows : List Row} (h : ZsL H zs rows) {i : Int} {r : Row} (hr : rows[i.toNat]? = some r) (hn : r.nm ≠ 64) : ∃ t, fZ zs i = .ref t ∧ H t = some (.tup [.int r.st, .int r.pg, .int r.v]) := by
  obtain ⟨t, a, b⟩ := h.2 _ r hr hn
  refine ⟨t, ?_, b⟩
  unfold fZ
  rw [List.getD_eq_getElem?_getD, a]
  rfl
structure NwAt (H : Hp) (dk ro : Addr) (rows : List Row) : Prop where
  ex : ∃ (zs : List V) (kv : List (Int × Int)) (st v : Int), H dk = some (.dK (kvF (fZ zs) kv)) ∧ ZsL H zs rows ∧ H ro = some (.tup [.int st, .int v]) ∧ (NewL rows kv ∧ kv.length ≤ rows.length) ∧ RolL rows st v
theorem r4n_get {H : Hp} {ys : List V} {rows : List Row} (h : TupL H ys (rows.map r4n)) {i : Nat} {y : V} (hy : ys[i]? = some y) : ∃ (r : Row) (t : Addr), rows[i]? = some r ∧ y = .ref t ∧ H t = some (.tup [.int r.st, .int r.nm, .int r.pg, .int r.v]) := by
  obtain ⟨e, t, h1, h2, h3⟩ := h.get hy
  rw [List.getElem?_map] at h1
  cases e2 : rows[i]? with
  | none => rw [e2] at h1; cases h1
  | some r =>
    rw [e2] at h1
    cases h1
    exact ⟨r, t, rfl, h2, h3⟩
theorem take_asc {rows : List Row} (h : rows.Pairwise fun a b => a.st < b.st) {i : Nat} {r : Row} (hr : rows[i]? = some r) : ∀ x ∈ rows.take i, x.st < r.st := fun x hx => by
  obtain ⟨j, hj⟩ := List.getElem?_of_mem hx
  have hjl := (List.getElem?_eq_some_iff.mp hj).1
  rw [List.length_take] at hjl
  rw [List.getElem?_take_of_lt (by omega)] at hj
  obtain ⟨h1, e1⟩ := List.getElem?_eq_some_iff.mp hj
  obtain ⟨h2, e2⟩ := List.getElem?_eq_some_iff.mp hr
  have := List.pairwise_iff_getElem.mp h j i h1 h2 (by omega)
  rw [e1, e2] at this
  exact this
local macro_rules | `(tactic| walk_at "u") => `(tactic| ((with_reducible refine' x_appO ?ho ?_ ?hl); (case ho => walk_at "hp"); (try (case hl => walk_at "side")); intro H1 hO hI; (try dsimp only)))
def spNewest (T : Txt K mg) : Sp := fun vs H Q _ => ∃ (r : Addr) (F : CF) (q : Pc), vs = [.ref r, .int (q.b * q.p)] ∧ ChipP T.C_Chip H r F q ∧ RowOk q ∧ (∀ r ∈ rowsC q.ct, r.nm ≤ 64) ∧ q.dark = false ∧ ∀ u dk ro H', Same H H' → H' u = some (.tup [.ref dk, .ref ro]) → NwAt H' dk ro (rowsQ q.ct) → Q (.ref u) H'
theorem ok_newest (T : Txt K mg) : FO P w K mg base 5 T.a__law_newest T.fd__law_newest ["_law_chip", "_law_size"] (spNewest T) := by
  have sc := sc__law_newest
  refine T.F__law_newest.okX sc (fun vs H Q E h => ?_) (fun cdv A outer s H vs Q E hr h => ?_)
  · obtain ⟨_, _, _, rfl, _⟩ := h
    rfl
  obtain ⟨r, F, q, rfl, hC, hR, hnm, hd, q2⟩ := h
  refine ⟨_, (pss_cons (ps_set (i := 2) sc.nd rfl (by first | exact Or.inl rfl | exact Or.inr rfl) (pe_lst pa_nil))
      (pss_cons (ps_for (passes_of rfl) rfl (pi_range1 (by rfl) T.b_range (pa_cons (pv 1) pa_nil)) (pg_name (i := 3) sc.nd rfl (by first | exact Or.inl rfl | exact Or.inr rfl)) (pss_cons (ps_set (i := 4) sc.nd rfl (by first | exact Or.inl rfl | exact Or.inr rfl) (pe_methD (k := 4) (pv 0) (hr.mono (by decide)) (passAt (takes_of rfl rfl rfl rfl)) (pa_cons (pv 3) pa_nil)))
      (pss_one (ps_if (pt_cmpR op_uIsNot (pv 4) pe_non (nomark _)) (pss_one (ps_expr (pe_bm PySem.F.plainAttrs_list PySem.F.slot_list_append PySem.F.type_list_append mt_append (pv 2) (pa_cons (pe_tup (pa_cons (pe_op op_shr (pe_ix ix_seq (pv 4) pe_int (fun _ _ => rfl)) pe_int) (pa_cons (pe_op op_and (pe_ix ix_seq (pv 4) pe_int (fun _ _ => rfl)) pe_int) (pa_cons (pv 3) (pa_cons (pe_ix ix_seq (pv 4) pe_int (fun _ _ => rfl)) pa_nil))))) pa_nil)))) pss_nil))))
      (pss_cons (ps_set (i := 5) sc.nd rfl (by first | exact Or.inl rfl | exact Or.inr rfl) pe_dnewK)
      (pss_cons (ps_set (i := 6) sc.nd rfl (by first | exact Or.inl rfl | exact Or.inr rfl) (pe_tup (pa_cons pe_int (pa_cons pe_int pa_nil))))
      (pss_cons (ps_for (passes_of rfl) rfl (pi_list (pe_callB (cr_sortT (d := 4) (B := 10 ^ 50) (by decide)) (by rfl) T.b_sorted bt_sorted (pa_cons (pv 2) pa_nil))) (pg_tup (by rfl) (pgs_cons (pg_name (i := 7) sc.nd rfl (by first | exact Or.inl rfl | exact Or.inr rfl)) (pgs_cons (pg_name (i := 8) sc.nd rfl (by first | exact Or.inl rfl | exact Or.inr rfl)) (pgs_cons (pg_name (i := 3) sc.nd rfl (by first | exact Or.inl rfl | exact Or.inr rfl)) (pgs_cons (pg_name (i := 9) sc.nd rfl (by first | exact Or.inl rfl | exact Or.inr rfl)) pgs_nil))))) (pss_one (ps_if (pt_cmpR (op_uEq hr.units) (pv 8) pe_int (nomark _)) (pss_one (ps_set (i := 6) sc.nd rfl (by first | exact Or.inl rfl | exact Or.inr rfl) (pe_tup (pa_cons (pv 7) (pa_cons (pv 9) pa_nil))))) (pss_one (ps_dput (hu_of hr) (pv 5) (pv 8) (pe_tup (pa_cons (pv 7) (pa_cons (pv 3) (pa_cons (pv 9) pa_nil)))) rfl)))))
      (pss_one (ps_ret (pe_tup (pa_cons (pv 5) (pa_cons (pv 6) pa_nil)))))))))), ?_⟩
  obtain ⟨st, hC, hst⟩ := hC
  have ho := hC.obj
  unfold chipF Pc.toC at ho
  dsimp only at ho
  have hsz := hC.sz
  have hb : 2 ≤ q.b ∧ q.b ≤ 16 := hsz.b
  have hp : 1 ≤ q.p ∧ q.p ≤ 16 := hsz.p
  have hbp : q.b * q.p ≤ 16 * 16 := Int.mul_le_mul hb.2 hp.2 (by omega) (by decide)
  have hb0 : 0 ≤ q.b * q.p := Int.mul_nonneg (by omega) (by omega)
  have h2bp : 2 * 1 ≤ q.b * q.p := Int.mul_le_mul hb.1 hp.1 (by decide) (by omega)
  have hlen := hR.len
  have hll : ∀ i, ((List.range i).filterMap (rowC q.ct)).length ≤ i := fun i => Nat.le_trans (List.length_filterMap_le _ _) (by rw [List.length_range]; exact Nat.le_refl _)
  walk_at "begin"
  walk_at "go"
  rename_i p H1 hp1 hs1 hn1
  refine x_seq ?_
  walk_at "go"
  refine x_frR1 (j := q.b * q.p) (by omega) (fun i σ H' => ∃ (v3 v4 : Option V) (ys : List V), σ = [some (.ref r), some (.int (q.b * q.p)), some (.ref p), v3, v4, none, none, none, none, none] ∧ Same H H' ∧ H' p = some (.lst ys) ∧ TupL H' ys (((List.range i).filterMap (rowC q.ct)).map r4n)) ⟨_, _, [], rfl, hs1, hn1, TupL.nil⟩ ?_ ?_
  · intro i σ H2 hi ⟨v2, v3, ys, hσ, hs2, hn2, ht2⟩
    subst hσ
    have hi2 : (i : Int) < q.b * q.p := by omega
    have hC2 := hC.mono hs2
    have hst2 := hst.mono (TupS.of hs2)
    walk_at "go"
    refine x_mRead hC2 ?_
    walk_at "go"
    refine x_read hC2 hd ?_ ⟨by omega, by have : (q.toC st).b * (q.toC st).p = q.b * q.p := rfl; omega⟩
    have ei : (0 + (i : Int)).toNat = i := by omega
    have ev : (q.toC st).stuff.getD (0 + (i : Int)).toNat .non = st.getD i .non := by show st.getD (0 + (i : Int)).toNat .non = _; rw [ei]
    rw [ev]
    have hil : i < st.length := by have := hst.1; omega
    rcases hst2.2 i hil with ⟨c1, c2⟩ | ⟨a, m, x, c1, c2, c3⟩
    · rw [c2]
      walk_at "go"
      have er : rowC q.ct i = none := by unfold rowC; rw [c1]; rfl
      refine ⟨_, _, ys, rfl, hs2, hn2, ?_⟩
      rw [rowsC_take, er, List.append_nil]
      exact ht2
    · rw [c2]
      have hm := hR.rng i (m, x) c1
      dsimp only at hm
      have er : rowC q.ct i = some ⟨m / 128, (i : Int), m % 128, x⟩ := by unfold rowC; rw [c1]; rfl
      have hyl : ys.length < sizeLine := Nat.lt_of_le_of_lt (show _ ≤ 300 by have := ht2.1; rw [List.length_map] at this; have := hll i; omega) (by decide)
      walk_at "go"
      rw [if_neg (by rw [show decide (V.ref a = V.non) = false from decide_eq_false fun z => by cases z]; decide)]
      walk_at "go"
      rename_i t1 H3 ht1 hs3 hn3 H4 hO hI
      refine ⟨_, _, _, rfl, Off.same1 (hs2.trans hs3) hO hp1, hI, ?_⟩
      rw [rowsC_take, er, List.map_append]
      have tt : TupS H2 H4 := (TupS.of hs3).trans (hO.tupsL (hs3 _ _ hn2))
      have ht := hO.at hn3 (fun z => by rw [List.mem_singleton.mp z, hn2] at ht1; cases ht1)
      rw [mk_and hm.1, show m / 2 ^ (7 : Int).toNat = m / 128 from rfl, show (0 + (i : Int)) = (i : Int) by omega] at ht
      exact (ht2.mono tt).snoc ⟨t1, rfl, ht⟩
  · intro σ H2 ⟨v2, v3, ys, hσ, hs2, hn2, ht2⟩
    subst hσ
    have eN : (q.b * q.p).toNat = q.ct.length := by omega
    rw [eN] at ht2
    walk_at "go"
    rename_i d H3 hd3 hs3 hn3 ro H4 hro hs4 hn4
    have hn3' := hs4 _ _ hn3
    have ht4 := ht2.mono (TupS.of (hs3.trans hs4))
    have hn2' := hs4 _ _ (hs3 _ _ hn2)
    have s04 := (hs2.trans hs3).trans hs4
    have hdH : H d = none := same_none hs2 hd3
    clear hs3 hs4 hn3 hs2 ht2
    refine x_seq ?_
    walk_at "go"
    refine x_sortT (SqL.of hn2') ht4 (by rw [List.length_map]; exact hR.n) (r4n_bd hR (by omega)) fun p2 ys2 ls H5 hp5 hs5 hn5 ht5 hperm hsrt => ?_
    rw [hR.sorted4 (by omega) hperm hsrt] at ht5
    have hasc := rowsQ_asc hR
    have hqn : ∀ r ∈ rowsQ q.ct, (0 ≤ r.nm ∧ r.nm ≤ 64) := fun r hr => by
      have hr2 : r ∈ rowsC q.ct := (List.mergeSort_perm _ _).mem_iff.mp hr
      have := rowOk_row hR hr2
      exact ⟨this.2.2.1.1, hnm r hr2⟩
    have hql : (rowsQ q.ct).length < 64 := by unfold rowsQ; rw [List.length_mergeSort]; exact hR.n
    have hd5 := hs5 _ _ hn3'
    have hro5 := hs5 _ _ hn4
    have s05 := s04.trans hs5
    have hn3'd := hn3'
    clear hs5 hn3' hn4 hn2' ht4 s04
    generalize rowsQ q.ct = rows at ht5 hasc hqn hql q2
    have hyl : ys2.length = rows.length := by have := ht5.1; rw [List.length_map] at this; exact this
    have np2 : p2 ≠ d := fun z => by rw [z, hn3'd] at hp5; cases hp5
    refine x_frL (SqL.of hn5) (fun i σ H' => ∃ (v3' v7 v8 v9 : Option V) (zs : List V) (kv : List (Int × Int)) (ro : Addr) (st v : Int), σ = [some (.ref r), some (.int (q.b * q.p)), some (.ref p), v3', v3, some (.ref d), some (.ref ro), v7, v8, v9] ∧ Off [d] H5 H' ∧ H' d = some (.dK (kvF (fZ zs) kv)) ∧ ZsL H' zs (rows.take i) ∧ H' ro = some (.tup [.int st, .int v]) ∧ (NewL (rows.take i) kv ∧ kv.length ≤ i) ∧ RolL (rows.take i) st v)
      ⟨_, _, _, _, [], [], ro, 0, 0, rfl, Off.refl, hd5, ZsL.nil, hro5, ⟨⟨⟨List.nodup_nil, fun e he => by cases he⟩, fun r h => by cases h⟩, Nat.le_refl 0⟩, .inl ⟨rfl, rfl, fun r h => by cases h⟩⟩ (fun i σ H' _ h => by obtain ⟨_, _, _, _, _, _, _, _, _, _, hO, _⟩ := h; exact SqL.of (hO.at hn5 (nin_of np2))) ?_ ?_
    · intro i y σ H6 hy ⟨v3', v7, v8, v9, zs, kv, ro, st, v, hσ, hO6, hd6, hz6, hro6, ⟨hN, hkl⟩, hRl⟩
      subst hσ
      obtain ⟨r', t1, e1, rfl, ht⟩ := r4n_get ht5 hy
      have ht6 := hO6.at ht (nin_of (fun z => by rw [z, hd5] at ht; cases ht))
      have hil := (List.getElem?_eq_some_iff.mp e1).1
      have etk : rows.take (i + 1) = rows.take i ++ [r'] := by rw [List.take_add_one, e1]; rfl
      have hlt := take_asc hasc e1
      have hzl : zs.length = i := by have := hz6.1; rw [List.length_take] at this; omega
      have hlle : (rows.take i).length = i := by rw [List.length_take]; omega
      have hkb : ∀ e ∈ kv, 0 ≤ e.2 ∧ e.2 < (zs.length : Int) := fun e he => by have := hN.ni.len e he; omega
      have hn6 := hqn r' (List.mem_of_getElem? e1)
      refine x_gtup4 (SqT.of ht6) ?_
      dsimp only [List.set]
      walk_at "go"
      rw [etk]
      refine x_iteD (fun h64 => ?_) (fun h64 => ?_)
      · walk_at "go"
        rename_i t2 H7 ht2 hs7 hn7
        refine ⟨_, _, _, _, zs ++ [.non], kv, t2, r'.st, r'.v, rfl, hO6.trans (Off.of hs7), ?_, (hz6.mono (TupS.of hs7)).snoc fun z => absurd h64 z, hn7, ⟨hN.snoc h64, by omega⟩, RolL.roll h64 hlt⟩
        rw [kvF_ext hkb]
        exact hs7 _ _ hd6
      · walk_at "go"
        rename_i t2 H7 ht2 hs7 hn7
        have hd7 := hs7 _ _ hd6
        rw [← kvF_ext (z := .ref t2) hkb] at hd7
        have hfi : fZ (zs ++ [.ref t2]) (i : Int) = .ref t2 := by
          unfold fZ
          rw [Int.toNat_natCast, List.getD_eq_getElem?_getD, List.getElem?_append_right (by omega), hzl, Nat.sub_self]
          rfl
        refine x_dpI (kvs' := kvF (fZ (zs ++ [.ref t2])) (putI kv r'.nm (i : Int))) hd7 (by
          have := putK_F (f := fZ (zs ++ [.ref t2])) (ps := kv) (n := r'.nm) (x := (i : Int))
          rw [hfi] at this
          exact this) (fun H8 hO8 hI8 => ?_) (by rw [kvF_len]; omega)
        have tt : TupS H7 H8 := fun c xs e => hO8.at e (nin_of (fun z => by rw [z, hd7] at e; cases e))
        have hNp := hN.put (r := r') ⟨hn6.1, by omega⟩ hlt
        rw [hlle] at hNp
        refine ⟨_, _, _, _, zs ++ [.ref t2], putI kv r'.nm (i : Int), ro, st, v, rfl, (hO6.trans (Off.of hs7)).trans hO8, hI8, ((hz6.mono (TupS.of hs7)).mono tt).snoc fun _ => ⟨t2, rfl, tt _ _ hn7⟩, tt _ _ (hs7 _ _ hro6), ⟨hNp, ?_⟩, hRl.snoc h64⟩
        have := putI_len (ps := kv) (n := r'.nm) (x := (i : Int))
        omega
    · intro σ H6 ⟨v3', v7, v8, v9, zs, kv, ro, st, v, hσ, hO6, hd6, hz6, hro6, ⟨hN, hkl⟩, hRl⟩
      subst hσ
      rw [hyl, List.take_length] at hz6 hN hRl
      rw [hyl] at hkl
      have s06 : Same H H6 := Off.same1 s05 hO6 hdH
      clear hO6
      walk_at "go"
      rename_i u H7 hu hs7 hn7
      exact q2 u d ro H7 (s06.trans hs7) hn7 ⟨zs, kv, st, v, hs7 _ _ hd6, hz6.mono (TupS.of hs7), hs7 _ _ hro6, ⟨hN, hkl⟩, hRl⟩
/-! ### which of them are held -/
/-- a dict from the held names to pages and values -/
structure FdAt (H : Hp) (d : Addr) (c : Ct) (k : Bk) : Prop where
  ex : ∃ (zs : List V) (kv ps : List (Int × Int)), H d = some (.dK (kvF (fZ zs) kv)) ∧ PairL H zs ps ∧ (kv.map (·.1)).Nodup ∧ kv.length ≤ 63 ∧
    (∀ n i, getI kv n = some i → 0 ≤ i ∧ ∃ x, ps[i.toNat]? = some x ∧ getI k.wh n = some x.1 ∧ x.2 = vlC c x.1.toNat ∧ n ≠ 64) ∧ (∀ n, n ≠ 64 → (getI kv n).isSome = (getI k.wh n).isSome)
theorem keep_iff {q : Pc} {k : Bk} (hw : Wf q k) (hb : Rb0 q.ct k) (hr : Roll q.ct k) (hR : RowOk q) {kv : List (Int × Int)} {st v : Int} (hN : NewL (rowsQ q.ct) kv) (hl : RolL (rowsQ q.ct) st v) {n i : Int} (hi : getI kv n = some i) :
    ((decide (st < (rowI (rowsQ q.ct) i).st) || bitZ v n) = true ↔ getI k.wh n = some (rowI (rowsQ q.ct) i).pg) ∧ (¬ (decide (st < (rowI (rowsQ q.ct) i).st) || bitZ v n) = true → getI k.wh n = none) ∧ (rowI (rowsQ q.ct) i).v = vlC q.ct (rowI (rowsQ q.ct) i).pg.toNat := by
  obtain ⟨h0, r, hr1, hrn, hn0, hn64⟩ := hN.ni.get hi
  rw [rowI_get hr1]
  have hrm := List.mem_of_getElem? hr1
  obtain ⟨j, hj⟩ := rowsQ_mem.mp hrm
  obtain ⟨w1, e1, e2, e3, e4, e5⟩ := rowC_some hj
  have ej : r.pg.toNat = j := by rw [e2, Int.toNat_natCast]
  have hnm : nmC q.ct j = n := by rw [← e3]; exact hrn
  have newest : ∀ m, wrC q.ct m → nmC q.ct m = n → stC q.ct m ≤ stC q.ct j := fun m hm hmn => by
    obtain ⟨r', hr'⟩ : ∃ r', rowC q.ct m = some r' := by
      unfold wrC at hm
      unfold rowC
      cases hx : q.ct.getD m none with
      | none => exact absurd hx hm
      | some e => exact ⟨_, rfl⟩
    obtain ⟨_, f1, _, f3, _, _⟩ := rowC_some hr'
    have hm' : r' ∈ rowsQ q.ct := rowsQ_mem.mpr ⟨m, hr'⟩
    obtain ⟨i', hi', hle⟩ := hN.last r' hm' (by rw [f3, hmn]; omega)
    rw [f3, hmn, hi] at hi'
    cases hi'
    rw [rowI_get hr1] at hle
    omega
  have hv : r.v = vlC q.ct r.pg.toNat := by rw [ej]; exact e4
  have rollp : ∀ rp, getI k.wh 64 = some rp → st = stC q.ct rp.toNat ∧ v = vlC q.ct rp.toNat := fun rp hrp => by
    obtain ⟨v1, v2, v3⟩ := hb.wr _ _ hrp
    obtain ⟨r', hr'⟩ : ∃ r', rowC q.ct rp.toNat = some r' := by
      unfold wrC at v1
      unfold rowC
      cases hx : q.ct.getD rp.toNat none with
      | none => exact absurd hx v1
      | some e => exact ⟨_, rfl⟩
    obtain ⟨_, f1, _, f3, f4, _⟩ := rowC_some hr'
    have hm' : r' ∈ rowsQ q.ct := rowsQ_mem.mpr ⟨_, hr'⟩
    rcases hl with ⟨_, _, z⟩ | ⟨x, hx, x64, xs, xv, xl⟩
    · exact absurd (by rw [f3, v2]) (z r' hm')
    · have h1 := xl r' hm' (by rw [f3, v2])
      obtain ⟨jx, hjx⟩ := rowsQ_mem.mp hx
      obtain ⟨y1, y2, _, y3, y4, _⟩ := rowC_some hjx
      have h2 := v3 jx y1 (by rw [← y3]; exact x64)
      have := hb.inj _ _ y1 v1 (by omega)
      subst this
      exact ⟨by omega, by rw [xv, y4]⟩
  have rolln : getI k.wh 64 = none → st = 0 ∧ v = 0 := fun hz => by
    rcases hl with ⟨a, b, _⟩ | ⟨x, hx, x64, _⟩
    · exact ⟨a, b⟩
    · exfalso
      obtain ⟨jx, hjx⟩ := rowsQ_mem.mp hx
      obtain ⟨y1, y2, _, y3, _, _⟩ := rowC_some hjx
      obtain ⟨rp, g, _⟩ := hr.gone jx y1 (by rw [← y3, x64]; exact hz)
      rw [hz] at g
      cases g
  have rng := hb.rng j w1
  have key : (decide (st < r.st) || bitZ v n) = true ↔ getI k.wh n = some r.pg := by
    constructor
    · intro hk
      cases hx : getI k.wh n with
      | some pg =>
        obtain ⟨w2, w3, w4⟩ := hb.wr _ _ hx
        have a1 := w4 j w1 hnm
        have a2 := newest _ w2 w3
        have := hb.inj _ _ w1 w2 (by omega)
        have h1 := (hw.bk.wh _ (getI_mem hx)).1
        dsimp only at h1
        rw [e2, this, Int.toNat_of_nonneg h1]
      | none =>
        exfalso
        obtain ⟨rp, g1, g2, g3⟩ := hr.gone j w1 (by rw [hnm]; exact hx)
        obtain ⟨p1, p2⟩ := rollp rp g1
        rw [Bool.or_eq_true] at hk
        rcases hk with hk | hk
        · have := of_decide_eq_true hk
          omega
        · rw [p2, ← hnm, g3] at hk
          cases hk
    · intro hx
      rw [Bool.or_eq_true]
      cases hy : getI k.wh 64 with
      | none =>
        left
        have := (rolln hy).1
        exact decide_eq_true (by omega)
      | some rp =>
        obtain ⟨p1, p2⟩ := rollp rp hy
        by_cases hlt : st < r.st
        · exact .inl (decide_eq_true hlt)
        · right
          have hne : stC q.ct r.pg.toNat ≠ stC q.ct rp.toNat := fun z => by
            obtain ⟨v1, v2, _⟩ := hb.wr _ _ hy
            obtain ⟨w2, w3, _⟩ := hb.wr _ _ hx
            have := hb.inj _ _ w2 v1 z
            rw [this, v2] at w3
            omega
          rw [p2]
          refine hr.keep n r.pg rp hx (by omega) hy ?_
          rw [ej] at hne ⊢
          omega
  refine ⟨key, fun hn => ?_, hv⟩
  cases hx : getI k.wh n with
  | none => rfl
  | some pg =>
    exfalso
    obtain ⟨w2, w3, w4⟩ := hb.wr _ _ hx
    have a1 := w4 j w1 hnm
    have a2 := newest _ w2 w3
    have := hb.inj _ _ w1 w2 (by omega)
    have h1 := (hw.bk.wh _ (getI_mem hx)).1
    dsimp only at h1
    exact hn (key.mpr (by rw [hx, e2, this, Int.toNat_of_nonneg h1]))
def spFound (T : Txt K mg) : Sp := fun vs H Q _ => ∃ (r : Addr) (F : CF) (q : Pc) (k : Bk), vs = [.ref r, .int (q.b * q.p)] ∧ ChipP T.C_Chip H r F q ∧ RowOk q ∧ Wf q k ∧ Rb0 q.ct k ∧ Roll q.ct k ∧ q.dark = false ∧ ∀ d H', Same H H' → H d = none → FdAt H' d q.ct k → Q (.ref d) H'
theorem ok_found (T : Txt K mg) : FO P w K mg base 6 T.a__law_found T.fd__law_found ["_law_chip", "_law_size"] (spFound T) := by
  have sc := sc__law_found
  refine T.F__law_found.okX sc (fun vs H Q E h => ?_) (fun cdv A outer s H vs Q E hr h => ?_)
  · obtain ⟨_, _, _, _, rfl, _⟩ := h
    rfl
  obtain ⟨r, F, q, k, rfl, hC, hR, hw, hb, hrl, hd, q2⟩ := h
  refine ⟨_, (pss_cons (ps_asg (pe_callS (ok_newest T) (hr.mono (by decide)) (by rfl) T.g__law_newest T.k__law_newest T.bd__law_newest (passAt (takes_of rfl rfl rfl rfl)) (pa_cons (pv 0) (pa_cons (pv 1) pa_nil))) (pg_tup (by rfl) (pgs_cons (pg_name (i := 2) sc.nd rfl (by first | exact Or.inl rfl | exact Or.inr rfl)) (pgs_cons (pg_name (i := 3) sc.nd rfl (by first | exact Or.inl rfl | exact Or.inr rfl)) pgs_nil))))
      (pss_cons (ps_set (i := 4) sc.nd rfl (by first | exact Or.inl rfl | exact Or.inr rfl) pe_dnewK)
      (pss_cons (ps_for (passes_of rfl) rfl (pi_list (pe_callB (cr_usorted) (by rfl) T.b_sorted bt_sorted (pa_cons (pv 2) pa_nil))) (pg_name (i := 5) sc.nd rfl (by first | exact Or.inl rfl | exact Or.inr rfl)) (pss_cons (ps_asg (pe_dget (hu_of hr) (pv 2) (pv 5) (fun _ _ => rfl)) (pg_tup (by rfl) (pgs_cons (pg_name (i := 6) sc.nd rfl (by first | exact Or.inl rfl | exact Or.inr rfl)) (pgs_cons (pg_name (i := 7) sc.nd rfl (by first | exact Or.inl rfl | exact Or.inr rfl)) (pgs_cons (pg_name (i := 8) sc.nd rfl (by first | exact Or.inl rfl | exact Or.inr rfl)) pgs_nil)))))
      (pss_one (ps_if (PW.pt (pw_or (pt_cmpR op_gt (pv 6) (pe_ix ix_seq (pv 3) pe_int (fun _ _ => rfl)) (nomark _)) (pw_or1 (pt_cmpR (op_uEq hr.units) (pe_op op_and (pe_op op_shr (pe_ix ix_seq (pv 3) pe_int (fun _ _ => rfl)) (pv 5)) pe_int) pe_int (nomark _))))) (pss_one (ps_dput (hu_of hr) (pv 4) (pv 5) (pe_tup (pa_cons (pv 7) (pa_cons (pv 8) pa_nil))) rfl)) pss_nil))))
      (pss_one (ps_ret (pv 4)))))), ?_⟩
  have hnm64 : ∀ r ∈ rowsC q.ct, r.nm ≤ 64 := fun r hr => by
    unfold rowsC at hr
    obtain ⟨i, hi, e⟩ := List.mem_filterMap.mp hr
    obtain ⟨w1, _, _, e3, _, _⟩ := rowC_some e
    have := (hb.rng i w1).2.2.1
    omega
  have hv0 : ∀ st v, RolL (rowsQ q.ct) st v → 0 ≤ v := fun st v h => by
    rcases h with ⟨_, h, _⟩ | ⟨x, hx, _, _, h, _⟩
    · omega
    · have := rowOk_row hR ((List.mergeSort_perm _ _).mem_iff.mp hx)
      omega
  walk_at "begin"
  walk_at "go"
  refine ⟨r, F, q, rfl, hC, hR, hnm64, hd, fun u dk ro H1 hs1 hu hK => ?_⟩
  obtain ⟨zs, kv, st, v, k1, k2, k3, ⟨hN, hkl⟩, hRl⟩ := hK.ex
  have hv := hv0 st v hRl
  refine x_gtup2 (SqT.of hu) ?_
  dsimp only [List.set]
  have hks : (kvF (fZ zs) kv).map (·.1) = (kv.map (·.1)).map Sum.inl := by unfold kvF; rw [List.map_map, List.map_map]; rfl
  have hql : (rowsQ q.ct).length < 64 := by unfold rowsQ; rw [List.length_mergeSort]; exact hR.n
  walk_at "go"
  rename_i d H2 hd2 hs2 hn2
  have k1' := hs2 _ _ k1
  have k2' := k2.mono (TupS.of hs2)
  have k3' := hs2 _ _ k3
  have s02 := hs1.trans hs2
  have hdH : H d = none := same_none hs1 hd2
  have ndk : dk ≠ d := fun z => by rw [← z, k1] at hd2; cases hd2
  have nro : ro ≠ d := fun z => by rw [← z, k3] at hd2; cases hd2
  clear hs1 hs2 k1 k2 k3 hK
  refine x_seq ?_
  walk_at "go"
  refine x_sortD k1' hks (by rw [List.length_map]; omega) fun pk H3 hpk hs3 hn3 => ?_
  have n3 := hs3 _ _ hn2
  have k13 := hs3 _ _ k1'
  have k23 := k2'.mono (TupS.of hs3)
  have k33 := hs3 _ _ k3'
  have s03 := s02.trans hs3
  have npk : pk ≠ d := fun z => by rw [z, hn2] at hpk; cases hpk
  clear hs3 k1' k2' k3' hn2 s02
  have hsp := sortZ_perm (kv.map (·.1))
  generalize sortZ (kv.map (·.1)) = ks at hn3 hsp
  have hksn : ks.Nodup := hsp.nodup_iff.mpr hN.ni.nd
  have hkm : ∀ n, n ∈ ks ↔ n ∈ kv.map (·.1) := fun n => hsp.mem_iff
  have hkl' : ks.length ≤ 63 := by have := hsp.length_eq; rw [List.length_map] at this; omega
  refine x_frL (SqL.of hn3) (fun j σ H' => ∃ (v5 v6 v7 v8 : Option V) (zs2 : List V) (kv2 ps : List (Int × Int)), σ = [some (.ref r), some (.int (q.b * q.p)), some (.ref dk), some (.ref ro), some (.ref d), v5, v6, v7, v8] ∧ Off [d] H3 H' ∧ H' d = some (.dK (kvF (fZ zs2) kv2)) ∧ PairL H' zs2 ps ∧ (kv2.map (·.1)).Nodup ∧ kv2.length ≤ j ∧
      (∀ n i, getI kv2 n = some i → 0 ≤ i ∧ ∃ x, ps[i.toNat]? = some x ∧ getI k.wh n = some x.1 ∧ x.2 = vlC q.ct x.1.toNat ∧ n ≠ 64) ∧ (∀ e ∈ kv2, e.2 < (ps.length : Int)) ∧ (∀ n, n ≠ 64 → (getI kv2 n).isSome = (decide (n ∈ ks.take j) && (getI k.wh n).isSome)))
    ⟨_, _, _, _, [], [], [], rfl, Off.refl, n3, PairL.nil, List.nodup_nil, Nat.le_refl 0, (fun n i h => by cases h), (fun e h => by cases h), fun n _ => rfl⟩ (fun j σ H' _ h => by obtain ⟨_, _, _, _, _, _, _, _, hO, _⟩ := h; exact SqL.of (hO.at hn3 (nin_of npk))) ?_ ?_
  · intro j y σ H4 hy ⟨v5, v6, v7, v8, zs2, kv2, ps, hσ, hO4, hd4, hz4, hnd2, hl2, hi2, hp2, hg2⟩
    subst hσ
    obtain ⟨n, hn, rfl⟩ : ∃ n, ks[j]? = some n ∧ y = .int n := by
      rw [List.getElem?_map] at hy
      cases e : ks[j]? with
      | none => rw [e] at hy; cases hy
      | some n => rw [e] at hy; cases hy; exact ⟨n, rfl, rfl⟩
    have hnk := (hkm n).mp (List.mem_of_getElem? hn)
    obtain ⟨ix, hix⟩ : ∃ ix, getI kv n = some ix := by
      cases hg : getI kv n with
      | none => exact absurd hnk (getI_key.mp hg)
      | some x => exact ⟨x, rfl⟩
    obtain ⟨h0, rr, hrr, hrn, hn0, hn64⟩ := hN.ni.get hix
    obtain ⟨tr, hft, htr⟩ := k23.get hrr (by omega)
    have ntd : tr ≠ d := fun z => by rw [z, n3] at htr; cases htr
    have htr4 := hO4.at htr (nin_of ntd)
    have hro4 := hO4.at k33 (nin_of nro)
    have hdk4 := hO4.at k13 (nin_of ndk)
    obtain ⟨c1, c2, c3⟩ := keep_iff hw hb hrl hR hN hRl hix
    rw [rowI_get hrr] at c1 c2 c3
    have hvd : valV (kvF (fZ zs) kv) (.inl n) = some (.ref tr) := by rw [valV_F, hix]; show some (fZ zs ix) = _; rw [hft]
    have etk : ks.take (j + 1) = ks.take j ++ [n] := by rw [List.take_add_one, hn]; rfl
    have hjl := (List.getElem?_eq_some_iff.mp hn).1
    have stepN : (getI k.wh n).isSome = false → ∀ m, m ≠ 64 → (getI kv2 m).isSome = (decide (m ∈ ks.take (j + 1)) && (getI k.wh m).isSome) := fun hz m hm => by
      rw [hg2 m hm, etk]
      by_cases z : m = n
      · rw [z, hz, Bool.and_false, Bool.and_false]
      · congr 1
        rw [decide_eq_decide, List.mem_append, List.mem_singleton]
        exact ⟨.inl, fun y => y.elim id fun y => absurd y z⟩
    walk_at "go"
    refine x_dgI hdk4 hvd ?_
    refine x_gtup3 (SqT.of htr4) ?_
    dsimp only [List.set]
    have hpl : zs2.length = ps.length := hz4.1
    have hkb : ∀ e ∈ kv2, 0 ≤ e.2 ∧ e.2 < (zs2.length : Int) := fun e he => ⟨(hi2 _ _ (getI_of_mem hnd2 he)).1, by rw [hpl]; exact hp2 e he⟩
    have put : (decide (st < rr.st) || bitZ v n) = true → ∀ t2 H5 H6, H4 t2 = none → Same H4 H5 → H5 t2 = some (.tup [.int rr.pg, .int rr.v]) → Off [d] H5 H6 → H6 d = some (.dK (kvF (fZ (zs2 ++ [.ref t2])) (putI kv2 n (ps.length : Int)))) → ∃ (v5 v6 v7 v8 : Option V) (zs2 : List V) (kv2 ps : List (Int × Int)), Off [d] H3 H6 ∧ H6 d = some (.dK (kvF (fZ zs2) kv2)) ∧ PairL H6 zs2 ps ∧ (kv2.map (·.1)).Nodup ∧ kv2.length ≤ j + 1 ∧
      (∀ n i, getI kv2 n = some i → 0 ≤ i ∧ ∃ x, ps[i.toNat]? = some x ∧ getI k.wh n = some x.1 ∧ x.2 = vlC q.ct x.1.toNat ∧ n ≠ 64) ∧ (∀ e ∈ kv2, e.2 < (ps.length : Int)) ∧ (∀ n, n ≠ 64 → (getI kv2 n).isSome = (decide (n ∈ ks.take (j + 1)) && (getI k.wh n).isSome)) := by
      intro hb t2 H5 H6 ht2 hs5 hn5 hO6 hI6
      have tt : TupS H5 H6 := fun c xs e => hO6.at e (nin_of (fun z => by rw [z, hs5 _ _ hd4] at e; cases e))
      refine ⟨none, none, none, none, zs2 ++ [.ref t2], putI kv2 n (ps.length : Int), ps ++ [(rr.pg, rr.v)], (hO4.trans (Off.of hs5)).trans hO6, hI6, ((hz4.mono (TupS.of hs5)).mono tt).snoc ⟨t2, rfl, tt _ _ hn5⟩, put_nodup hnd2, by have := putI_len (ps := kv2) (n := n) (x := (ps.length : Int)); omega, fun m i hm => ?_, fun e he => ?_, fun m hm => ?_⟩
      · rw [getI_put] at hm
        by_cases z : m = n
        · rw [if_pos z] at hm
          cases hm
          refine ⟨Int.natCast_nonneg _, (rr.pg, rr.v), ?_, by rw [z]; exact c1.mp hb, c3, by omega⟩
          rw [Int.toNat_natCast, List.getElem?_append_right (Nat.le_refl _), Nat.sub_self]
          rfl
        · rw [if_neg z] at hm
          obtain ⟨y0, x, y1, y2⟩ := hi2 m i hm
          exact ⟨y0, x, by rw [List.getElem?_append_left (List.getElem?_eq_some_iff.mp y1).1]; exact y1, y2⟩
      · rw [List.length_append, List.length_singleton]
        rcases putI_mem he with z | z
        · have := hp2 e z
          omega
        · omega
      · rw [getI_put]
        by_cases z : m = n
        · rw [if_pos z, z, etk, c1.mp hb, decide_eq_true (List.mem_append_right _ List.mem_cons_self)]
          rfl
        · rw [if_neg z, hg2 m hm, etk]
          congr 1
          rw [decide_eq_decide, List.mem_append, List.mem_singleton]
          exact ⟨.inl, fun y => y.elim id fun y => absurd y z⟩
    have hpk' : ∀ t2 : Addr, putK (kvF (fZ (zs2 ++ [.ref t2])) kv2) (.inl n) (.ref t2) = kvF (fZ (zs2 ++ [.ref t2])) (putI kv2 n (ps.length : Int)) := fun t2 => by
      have := putK_F (f := fZ (zs2 ++ [.ref t2])) (ps := kv2) (n := n) (x := (ps.length : Int))
      have hfi : fZ (zs2 ++ [.ref t2]) (ps.length : Int) = .ref t2 := by
        unfold fZ
        rw [Int.toNat_natCast, List.getD_eq_getElem?_getD, ← hpl, List.getElem?_append_right (Nat.le_refl _), Nat.sub_self]
        rfl
      rw [hfi] at this
      exact this
    have hkvl : (kvF (fZ zs2) kv2).length ≤ 1000 := by rw [kvF_len]; omega
    walk_at "go"
    refine x_iteD (fun hlt => ?_) (fun hge => ?_)
    · have hbb : (decide (st < rr.st) || bitZ v n) = true := by rw [decide_eq_true hlt]; rfl
      walk_at "go"
      rename_i t2 H5 ht2 hs5 hn5
      have hd5 := hs5 _ _ hd4
      rw [← kvF_ext (z := .ref t2) hkb] at hd5
      refine x_dpI (kvs' := _) hd5 (hpk' t2) (fun H6 hO6 hI6 => ?_) (by rw [kvF_len]; omega)
      obtain ⟨_, _, _, _, a1, a2, a3, a4⟩ := put hbb t2 H5 H6 ht2 hs5 hn5 hO6 hI6
      exact ⟨_, _, _, _, a1, a2, a3, rfl, a4⟩
    · walk_at "go"
      rw [bit_dec hv]
      cases hbz : bitZ v n with
      | true =>
        have hbb : (decide (st < rr.st) || bitZ v n) = true := by rw [hbz, Bool.or_true]
        walk_at "go"
        rename_i t2 H5 ht2 hs5 hn5
        have hd5 := hs5 _ _ hd4
        rw [← kvF_ext (z := .ref t2) hkb] at hd5
        refine x_dpI (kvs' := _) hd5 (hpk' t2) (fun H6 hO6 hI6 => ?_) (by rw [kvF_len]; omega)
        obtain ⟨_, _, _, _, a1, a2, a3, a4⟩ := put hbb t2 H5 H6 ht2 hs5 hn5 hO6 hI6
        exact ⟨_, _, _, _, a1, a2, a3, rfl, a4⟩
      | false =>
        have hz := c2 (by rw [hbz, decide_eq_false hge]; decide)
        walk_at "go"
        exact ⟨_, _, _, _, zs2, kv2, ps, rfl, hO4, hd4, hz4, hnd2, Nat.le_succ_of_le hl2, hi2, hp2, stepN (by rw [hz]; rfl)⟩
  · intro σ H4 ⟨v5, v6, v7, v8, zs2, kv2, ps, hσ, hO4, hd4, hz4, hnd2, hl2, hi2, hp2, hg2⟩
    subst hσ
    rw [List.length_map] at hl2
    rw [List.length_map, List.take_length] at hg2
    have s04 : Same H H4 := Off.same1 s03 hO4 hdH
    clear hO4
    walk_at "go"
    refine q2 d H4 s04 hdH ⟨zs2, kv2, ps, hd4, hz4, hnd2, by omega, hi2, fun n hn => ?_⟩
    rw [hg2 n hn]
    cases hx : getI k.wh n with
    | none => rw [show (none : Option Int).isSome = false from rfl, Bool.and_false]
    | some pg =>
      have : n ∈ ks := by
        rw [hkm]
        obtain ⟨w2, w3, w4⟩ := hb.wr _ _ hx
        obtain ⟨r', hr'⟩ : ∃ r', rowC q.ct pg.toNat = some r' := by
          unfold wrC at w2
          unfold rowC
          cases hy : q.ct.getD pg.toNat none with
          | none => exact absurd hy w2
          | some e => exact ⟨_, rfl⟩
        obtain ⟨_, _, _, f3, _, _⟩ := rowC_some hr'
        obtain ⟨i, hi, _⟩ := hN.last r' (rowsQ_mem.mpr ⟨_, hr'⟩) (by rw [f3, w3]; exact hn)
        rw [f3, w3] at hi
        exact Decidable.byContradiction fun z => by rw [getI_key.mpr z] at hi; cases hi
      rw [decide_eq_true this]
      rfl
/-! ### names, bits -/
def spName : Sp := fun vs H Q _ => ∃ (k c : Int), vs = [.int k, .int c] ∧ (0 ≤ k ∧ k ≤ 5) ∧ ∀ n : Int, 0 ≤ n ∧ n ≤ 63 → Q (.int n) H
theorem ok_name (T : Txt K mg) : FO P w K mg base 1 T.a__law_name T.fd__law_name ["_law_k", "_law_way"] spName := by
  have sc := sc__law_name
  refine T.F__law_name.okX sc (fun vs H Q E h => ?_) (fun cdv A outer s H vs Q E hr h => ?_)
  · obtain ⟨_, _, rfl, _⟩ := h
    rfl
  obtain ⟨k, c, rfl, hk, q⟩ := h
  refine ⟨_, (pss_cons (ps_set (i := 2) sc.nd rfl (by first | exact Or.inl rfl | exact Or.inr rfl) (pe_op op_uMul (pv 0) (pe_op op_uAdd pe_int (pe_op op_mod (pv 1) pe_int))))
      (pss_cons (ps_if (pt_cmpR (op_uEq hr.units) (pe_op op_mod (pe_op op_fdivW (pv 1) pe_int) pe_int) pe_int (nomark _)) (pss_one (ps_ret (pe_op op_sub pe_int (pv 2)))) pss_nil)
      (pss_one (ps_ret (pv 2))))), ?_⟩
  have e5 : 0 ≤ 1 + c % 12 ∧ 1 + c % 12 ≤ 12 := by omega
  have e60 : 0 ≤ k * (1 + c % 12) ∧ k * (1 + c % 12) ≤ 5 * 12 := ⟨Int.mul_nonneg hk.1 e5.1, Int.mul_le_mul hk.2 e5.2 (by omega) (by decide)⟩
  walk_at "begin"
  walk_at "go"
  walk_at "if"
  refine x_iteD (fun _ => ?_) (fun _ => ?_)
  · walk_at "go"
    exact q _ (by omega)
  · walk_at "go"
    exact q _ (by omega)
theorem x_name {H : Hp} {Q : VK} {E : XK} {k c : Int} (q : ∀ n : Int, 0 ≤ n ∧ n ≤ 63 → Q (.int n) H) (hk : 0 ≤ k ∧ k ≤ 5) : spName [.int k, .int c] H Q E := ⟨k, c, rfl, hk, q⟩
def spLBits : Sp := fun vs H Q _ => ∃ (c w : Int), vs = [.int c, .int w] ∧ ∀ x : Nat, x < 2 ^ 64 → Q (.int (x : Int)) H
theorem ok_bits (T : Txt K mg) : FO P w K mg base 3 T.a__law_bits T.fd__law_bits ["_law_cell", "_law_way"] spLBits := by
  have sc := sc__law_bits
  refine T.F__law_bits.okX sc (fun vs H Q E h => ?_) (fun cdv A outer s H vs Q E hr h => ?_)
  · obtain ⟨_, _, rfl, _⟩ := h
    rfl
  obtain ⟨c, w', rfl, q⟩ := h
  refine ⟨_, (pss_cons (ps_set (i := 2) sc.nd rfl (by first | exact Or.inl rfl | exact Or.inr rfl) pe_int)
      (pss_cons (ps_for (passes_of rfl) rfl (pi_range1 (by rfl) T.b_range (pa_cons pe_int pa_nil)) (pg_name (i := 3) sc.nd rfl (by first | exact Or.inl rfl | exact Or.inr rfl)) (pss_one (ps_if (pt_cmpR (op_uNe hr.units) (pe_op op_mod (pe_callS (ok_mix T) (hr.mono (by decide)) (by rfl) T.g__law_mix T.k__law_mix T.bd__law_mix (passAt (takes_of rfl rfl rfl rfl)) (pa_cons (pv 0) (pa_cons (pv 3) pa_nil))) pe_int) pe_int (nomark _)) (pss_one (ps_set (i := 2) sc.nd rfl (by first | exact Or.inl rfl | exact Or.inr rfl) (pe_op op_or (pv 2) (pe_op op_uShl pe_int (pe_callS (ok_name T) (hr.mono (by decide)) (by rfl) T.g__law_name T.k__law_name T.bd__law_name (passAt (takes_of rfl rfl rfl rfl)) (pa_cons (pv 3) (pa_cons (pv 1) pa_nil))))))) pss_nil)))
      (pss_one (ps_ret (pv 2))))), ?_⟩
  walk_at "begin"
  walk_at "go"
  refine x_seq ?_
  walk_at "go"
  refine x_frR1 (by decide) (fun i σ H' => ∃ (x : Nat) (v3 : Option V), H' = H ∧ σ = [some (.int c), some (.int w'), some (.int (x : Int)), v3] ∧ x < 2 ^ 64) ⟨0, _, rfl, rfl, by decide⟩ ?_ ?_
  · intro i σ H' hi ⟨x, v3, hH, hσ, hx⟩
    subst hσ hH
    have hi : i < 6 := hi
    walk_at "go"
    refine x_iteD (fun _ => ?_) (fun _ => ?_)
    · walk_at "go"
      exact ⟨x, _, rfl, rfl, hx⟩
    · walk_at "go"
      refine x_name (fun n hn => ?_) (by omega)
      have hs1 : CShl 1 n := by
        obtain ⟨m, rfl⟩ := Int.eq_ofNat_of_zero_le hn.1
        exact shl_ok (n := 1) (by decide) (by omega)
      walk_at "go"
      rw [or_step]
      exact ⟨_, _, rfl, rfl, Nat.or_lt_two_pow hx (Nat.pow_lt_pow_right (by decide) (by omega))⟩
  · intro σ H' ⟨x, v3, hH, hσ, hx⟩
    subst hσ hH
    walk_at "go"
    exact q x hx
/-! ### pages laid -/
structure LaidK (H0 H : Hp) (C : Addr) (rc : Addr) (F : CF) (b p : Int) (rows : List Row) (q : Pc) (n : Nat) : Prop where
  off : Off (F.all rc) H0 H
  chip : ChipP C H rc F q
  laid : Laid b p rows q
  len : rows.length ≤ n
  st : 1 ≤ (kAll b p rows).stamp ∧ (kAll b p rows).stamp ≤ 10 + 3 * (n : Int)
def spLay (T : Txt K mg) : Sp := fun vs H Q _ => ∃ (rc : Addr) (F : CF) (a : Addr) (ns : List Int) (b p w : Int) (q : Pc), vs = [.ref rc, .ref a, .int b, .int p, .int w] ∧ (∃ H0, Same H0 H ∧ SqL K H0 a (ns.map V.int) ∧ ∀ x ∈ F.all rc, H0 x = none) ∧ ns.length ≤ 63 ∧ ChipP T.C_Chip H rc F q ∧ Laid b p [] q ∧
  ∀ rows q' H', LaidK H H' T.C_Chip rc F b p rows q' 40 → Q .non H'
theorem ok_lay (T : Txt K mg) : FO P w K mg base 6 T.a__law_lay T.fd__law_lay ["_law_chip", "_law_script", "_law_blocks", "_law_pages", "_law_way"] (spLay T) := by
  have sc := sc__law_lay
  refine T.F__law_lay.okX sc (fun vs H Q E h => ?_) (fun cdv A outer s H vs Q E hr h => ?_)
  · obtain ⟨_, _, _, _, _, _, _, _, rfl, _⟩ := h
    rfl
  obtain ⟨rc, F, a, ns, b, p, ww, q0, rfl, ⟨H0, hs0, hS0, hF0⟩, hl, hC, hL, q⟩ := h
  refine ⟨_, (pss_cons (ps_set (i := 5) sc.nd rfl (by first | exact Or.inl rfl | exact Or.inr rfl) (pe_op op_uMul (pe_lst (pa_cons pe_int pa_nil)) (pv 2)))
      (pss_one (ps_for (passes_of rfl) rfl (pi_range2 (by rfl) T.b_range (pa_cons pe_int (pa_cons (pe_callB (cr_umin) (by rfl) T.b_min bt_min (pa_cons (pe_callB (cr_ulen) (by rfl) T.b_len bt_len (pa_cons (pv 1) pa_nil)) (pa_cons pe_int pa_nil))) pa_nil))) (pg_name (i := 6) sc.nd rfl (by first | exact Or.inl rfl | exact Or.inr rfl)) (pss_cons (ps_set (i := 7) sc.nd rfl (by first | exact Or.inl rfl | exact Or.inr rfl) (pe_op op_mod (pe_ix ix_seq (pv 1) (pv 6) (fun _ _ => rfl)) (pv 2)))
      (pss_one (ps_if (pt_cmpR op_uLt (pe_ix ix_seq (pv 5) (pv 7) (fun _ _ => rfl)) (pv 3) (nomark _)) (pss_cons (ps_set (i := 8) sc.nd rfl (by first | exact Or.inl rfl | exact Or.inr rfl) (pe_callS (ok_name T) (hr.mono (by decide)) (by rfl) T.g__law_name T.k__law_name T.bd__law_name (passAt (takes_of rfl rfl rfl rfl)) (pa_cons (pe_op op_mod (pe_op op_fdivW (pe_ix ix_seq (pv 1) (pv 6) (fun _ _ => rfl)) pe_int) pe_int) (pa_cons (pv 4) pa_nil))))
      (pss_cons (ps_set (i := 9) sc.nd rfl (by first | exact Or.inl rfl | exact Or.inr rfl) (pv 6))
      (pss_cons (ps_if (pt_cmpR (op_uEq hr.units) (pe_op op_mod (pe_callS (ok_mix T) (hr.mono (by decide)) (by rfl) T.g__law_mix T.k__law_mix T.bd__law_mix (passAt (takes_of rfl rfl rfl rfl)) (pa_cons (pe_ix ix_seq (pv 1) (pv 6) (fun _ _ => rfl)) (pa_cons pe_int pa_nil))) pe_int) pe_int (nomark _)) (pss_cons (ps_set (i := 8) sc.nd rfl (by first | exact Or.inl rfl | exact Or.inr rfl) (pe_glob rfl T.g_ROLL T.r_ROLL))
      (pss_one (ps_set (i := 9) sc.nd rfl (by first | exact Or.inl rfl | exact Or.inr rfl) (pe_callS (ok_bits T) (hr.mono (by decide)) (by rfl) T.g__law_bits T.k__law_bits T.bd__law_bits (passAt (takes_of rfl rfl rfl rfl)) (pa_cons (pe_ix ix_seq (pv 1) (pv 6) (fun _ _ => rfl)) (pa_cons (pv 4) pa_nil)))))) pss_nil)
      (pss_cons (ps_expr (pe_methD (k := 4) (pv 0) (hr.mono (by decide)) (passAt (takes_of rfl rfl rfl rfl)) (pa_cons (pe_op op_uAdd (pe_op op_uMul (pv 7) (pv 3)) (pe_ix ix_seq (pv 5) (pv 7) (fun _ _ => rfl))) (pa_cons (pe_tup (pa_cons (pe_callS (ok_mark_of T) (hr.mono (by decide)) (by rfl) T.g_mark_of T.k_mark_of T.bd_mark_of (passAt (takes_of rfl rfl rfl rfl)) (pa_cons (pe_op op_uMul pe_int (pv 6)) (pa_cons (pv 8) pa_nil))) (pa_cons (pv 9) pa_nil))) pa_nil))))
      (pss_one (ps_asg (pe_op op_uAdd (pe_ix ix_seq (pv 5) (pv 7) (fun _ _ => rfl)) pe_int) (pg_sub (pv 5) (pv 7) set_list))))))) pss_nil)))))), ?_⟩
  have hS := hs0.seq hS0
  have hb : 2 ≤ b ∧ b ≤ 16 := by have := hL.hb.wf.bk.b; rw [hL.nk.1] at this; exact this
  have hp : 1 ≤ p ∧ p ≤ 16 := by have := hL.hb.wf.bk.p; rw [hL.nk.2] at this; exact this
  walk_at "begin"
  walk_at "go"
  rename_i f0 H2' hf0 hs2' hn2' f H2 hf hs2 hn2
  have z0 : (List.replicate b.toNat (V.int 0)) = (kAll b p []).fil.map V.int := by show _ = (List.replicate b.toNat (0 : Int)).map V.int; rw [List.map_replicate]
  rw [z0] at hn2
  have s02 : Same H H2 := hs2'.trans hs2
  have hf0H : H f = none := same_none hs2' hf
  have fF : f ∉ F.all rc := hC.fresh hf0H
  have hC2 := hC.mono s02
  clear hs2 hs2' hn2' z0
  have hl2 : (if (34 : Int) < ((ns.length : Nat) : Int) then (34 : Int) else (ns.length : Int)) ≤ 34 ∧ (if (34 : Int) < ((ns.length : Nat) : Int) then (34 : Int) else (ns.length : Int)) ≤ ns.length ∧ 0 ≤ (if (34 : Int) < ((ns.length : Nat) : Int) then (34 : Int) else (ns.length : Int)) := by split <;> omega
  have hS2 := s02.seq hS
  generalize (if (34 : Int) < ((ns.length : Nat) : Int) then (34 : Int) else (ns.length : Int)) = L at hl2 ⊢
  refine x_frR2 (by omega) (fun i σ H' => ∃ (v6 v7 v8 v9 : Option V) (rows : List Row) (q' : Pc), σ = [some (.ref rc), some (.ref a), some (.int b), some (.int p), some (.int ww), some (.ref f), v6, v7, v8, v9] ∧ LaidK H H' T.C_Chip rc F b p rows q' i ∧ H' f = some (.lst ((kAll b p rows).fil.map V.int)))
    ⟨_, _, _, _, [], q0, rfl, ⟨Off.of s02, hC2, hL, Nat.le_refl 0, by show (1 : Int) ≤ 1 ∧ (1 : Int) ≤ 10 + 3 * 0; decide⟩, hn2⟩ ?_ ?_
  · clear hn2 hC2 hS2
    intro i σ H3 hi ⟨v6, v7, v8, v9, rows, q', hσ, hH, hf3⟩
    subst hσ
    have hS3 := (Off.same hs0 hH.off hF0).seq hS0
    obtain ⟨hO, hC3, hL3, hlen, hst⟩ := hH
    have hk' : 0 ≤ 4 + (i : Int) ∧ 4 + (i : Int) < ns.length := by omega
    have fl := (kAll_len (b := b) (p := p) (rows := rows)).1
    have flI : (((kAll b p rows).fil.length : Nat) : Int) = b := by omega
    have hb0 : 0 < b := by omega
    have hbm : 0 ≤ ns.getD (4 + (i : Int)).toNat 0 % b ∧ ns.getD (4 + (i : Int)).toNat 0 % b < b := ⟨Int.emod_nonneg _ (by omega), Int.emod_lt_of_pos _ (by omega)⟩
    have hbm2 : ns.getD (4 + (i : Int)).toNat 0 % b < (((kAll b p rows).fil.length : Nat) : Int) := by omega
    walk_at "go"
    generalize hw : ns.getD (4 + (i : Int)).toNat 0 = w0 at hbm hbm2 ⊢
    generalize w0 % b = B0 at hbm hbm2 ⊢
    obtain ⟨m, rfl⟩ : ∃ m : Nat, B0 = (m : Int) := Int.eq_ofNat_of_zero_le hbm.1
    rw [Int.toNat_natCast]
    have hm : m < b.toNat := by omega
    refine x_iteD (fun hlt => ?_) (fun hge => ?_)
    rotate_left
    · walk_at "go"
      exact ⟨_, _, _, _, rows, q', rfl, ⟨hO, hC3, hL3, Nat.le_succ_of_le hlen, hst.1, by omega⟩, hf3⟩
    walk_at "go"
    rw [hw]
    refine x_name (fun nm hnm => ?_) (by omega)
    walk_at "go"
    refine x_join (fun σ' H' => H' = H3 ∧ ∃ nm vv : Int, (0 ≤ nm ∧ nm ≤ 64) ∧ (0 ≤ vv ∧ vv < 10 ^ 30 ∧ (nm = 64 → vv < 2 ^ 64)) ∧ σ' = [some (.ref rc), some (.ref a), some (.int b), some (.int p), some (.int ww), some (.ref f), some (.int (4 + (i : Int))), some (.int (m : Int)), some (.int nm), some (.int vv)]) (fun R hR => ?_) ?_
    · walk_at "go"
      refine x_iteD (fun _ => ?_) (fun _ => ?_)
      · walk_at "go"
        refine ⟨_, _, rfl, fun x hx => ?_⟩
        walk_at "go"
        refine hR _ _ ⟨rfl, 64, (x : Int), by decide, ⟨by omega, ?_, fun _ => by omega⟩, rfl⟩
        have : (2 : Nat) ^ 64 = 18446744073709551616 := by decide
        omega
      · walk_at "go"
        exact hR _ _ ⟨rfl, nm, _, by omega, ⟨by omega, by omega, fun z => by omega⟩, rfl⟩
    clear hnm
    intro σ' H3' ⟨hH3, nm, vv, hnm, hvr, hσ⟩
    subst hσ hH3
    have hmp : 0 ≤ (m : Int) * p ∧ (m : Int) * p ≤ 16 * 16 := ⟨Int.mul_nonneg (by omega) (by omega), Int.mul_le_mul (by omega) hp.2 (by omega) (by decide)⟩
    have hm0 : 0 ≤ (m : Int) ∧ (m : Int) < (((kAll b p rows).fil.length : Nat) : Int) := by omega
    have hf0 := (hL3.hb.wf.fil m).1
    have hmk : 0 ≤ 3 * (4 + (i : Int)) ∧ 3 * (4 + (i : Int)) < 10 ^ 45 ∧ 0 ≤ nm ∧ nm < 128 := ⟨by omega, by omega, hnm.1, by omega⟩
    obtain ⟨st, hCc, hstf⟩ := hC3
    have hC3 : ChipP T.C_Chip H3' rc F q' := ⟨st, hCc, hstf⟩
    walk_at "go"
    refine x_mPut hCc ?_
    walk_at "go"
    rename_i tp H4 htp hs4 hn4
    rw [Int.toNat_natCast]
    obtain ⟨pz1, pz2⟩ := hL3.put (x := 3 * (4 + (i : Int))) (n := nm) (v := vv) hm hlt (by omega) (by omega) hnm hvr
    obtain ⟨⟨pg0, pg1⟩, pgn, pgb⟩ := hL3.hb.page (m := m) (by rw [hL3.qb]; exact hm) (by rw [hL3.qp]; exact hlt)
    have hfr := (hL3.hb.pl (m := m) (x := (kAll b p rows).stamp) (n := 0) (v := 0) (by rw [hL3.qb]; exact hm) (by rw [hL3.qp]; exact hlt) (Int.le_refl _) (by decide) (by decide)).free
    rw [← pgn] at hfr
    have hqp := hL3.qp
    rw [hqp] at pg0 pg1 pgb hfr
    refine putQ_put ⟨rc, F, q', _, tp, (My.mk (3 * (4 + (i : Int))) nm, vv), rfl, hC3.mono hs4, hn4, by have := hL3.lg; omega, pg0, by rw [hqp]; exact pg1, hL3.hb.fn.br _, ?_, hL3.hb.wf.ctl, fun H5 hO5 hC5 => ?_⟩
    · unfold wrC at hfr
      exact Classical.byContradiction hfr
    rw [pz1]
    dsimp only
    have hf5 : H5 f = some (.lst ((kAll b p rows).fil.map V.int)) := hO5.at (hs4 _ _ hf3) fF
    have hO35 : Off (F.all rc) H H5 := hO.trans ((Off.of hs4).trans hO5)
    clear hO5
    walk_at "go"
    rename_i H6 hO6 hI6
    rw [Int.toNat_natCast] at hI6
    obtain ⟨re1, re2, re3, re4⟩ := note_fil_at (b := b) (k := kAll b p rows) (r := ⟨3 * (4 + (i : Int)), (m : Int) * p + (kAll b p rows).fil.getD m 0, nm, vv⟩) (m := m) ⟨hm, hf0, hlt, rfl, by show _ ≤ 3 * (4 + (i : Int)); omega, hnm⟩ hL3.nk.2 flI
    have f6 : H6 f = some (.lst ((noteR (kAll b p rows) ⟨3 * (4 + (i : Int)), (m : Int) * p + (kAll b p rows).fil.getD m 0, nm, vv⟩).fil.map V.int)) := by rw [hI6, re1, List.map_set]
    rw [← kAll_snoc] at f6 re4
    have offf : Off (F.all rc) H H6 := fun c o hc e => hO6.at (hO35 c o hc e) (fun z => by rw [List.mem_singleton.mp z, hf0H] at e; cases e)
    have fF' : ∀ x ∈ F.all rc, x ∉ [f] := fun x hx => nin_of (fun y => fF (y ▸ hx))
    have tt56 : TupS H5 H6 := fun c xs e => hO6.at e (nin_of (fun y => by rw [y, hf5] at e; cases e))
    refine ⟨_, _, _, _, rows ++ [⟨3 * (4 + (i : Int)), (m : Int) * p + (kAll b p rows).fil.getD m 0, nm, vv⟩], _, rfl, ⟨offf, hC5.off hO6 fF' tt56, pz2, by rw [List.length_append, List.length_singleton]; exact Nat.succ_le_succ hlen, ?_⟩, f6⟩
    rw [re4]
    show 1 ≤ 3 * (4 + (i : Int)) + 1 ∧ 3 * (4 + (i : Int)) + 1 ≤ _
    omega
  · intro σ H3 ⟨v6, v7, v8, v9, rows, q', hσ, hH, hf3⟩
    subst hσ
    walk_at "go"
    refine q rows q' H3 ⟨hH.off, hH.chip, hH.laid, by have := hH.len; omega, hH.st.1, by have := hH.st.2; omega⟩
/-! ### a list spoilt -/
def spPageL : Sp := fun vs H Q _ => ∃ (c n : Int), vs = [.int c, .int n] ∧ (1 ≤ n ∧ n ≤ 256) ∧ ∀ (x : Int) H', Same H H' → Q (.int x) H'
theorem ok_page (T : Txt K mg) : FO P w K mg base 1 T.a__law_page T.fd__law_page ["_law_cell", "_law_size"] spPageL := by
  have sc := sc__law_page
  refine T.F__law_page.okX sc (fun vs H Q E h => ?_) (fun cdv A outer s H vs Q E hr h => ?_)
  · obtain ⟨_, _, rfl, _⟩ := h
    rfl
  obtain ⟨c, n, rfl, hn, q⟩ := h
  refine ⟨_, (pss_cons (ps_set (i := 2) sc.nd rfl (by first | exact Or.inl rfl | exact Or.inr rfl) (pe_lst (pa_cons (pe_un un_neg pe_int) (pa_cons (pv 1) (pa_cons (pe_op op_sub (pe_un un_neg pe_int) (pe_op op_mod (pv 0) (pe_op op_pow pe_int pe_int))) (pa_cons (pe_op op_uAdd (pv 1) (pe_op op_mod (pv 0) (pe_op op_pow pe_int pe_int))) pa_nil))))))
      (pss_cons (ps_if (pt_cmpR (op_uEq hr.units) (pe_op op_mod (pv 0) pe_int) pe_int (nomark _)) (pss_one (ps_ret (pe_ix ix_seq (pv 2) (pe_op op_mod (pe_op op_fdivW (pv 0) pe_int) pe_int) (fun _ _ => rfl)))) pss_nil)
      (pss_one (ps_ret (pe_op op_mod (pe_op op_fdivW (pv 0) pe_int) (pv 1)))))), ?_⟩
  have hkF : (10 : Int) ^ 20 = 100000000000000000000 := by decide
  have c4 : 0 ≤ c / 6 % 4 ∧ c / 6 % 4 < 4 := by omega
  have hn0 : 0 < n := by omega
  walk_at "begin"
  walk_at "go"
  rename_i p H1 hp hs1 hn1
  walk_at "if"
  refine x_iteD (fun _ => ?_) (fun _ => ?_)
  · walk_at "go"
    obtain ⟨z, ez⟩ : ∃ z : Int, [V.int (-1), V.int n, V.int (-7 - c % 10 ^ 20), V.int (n + c % 10 ^ 20)].getD (c / 6 % 4).toNat V.non = V.int z := by
      generalize c / 6 % 4 = x at c4
      have : x = 0 ∨ x = 1 ∨ x = 2 ∨ x = 3 := by omega
      rcases this with rfl | rfl | rfl | rfl <;> exact ⟨_, rfl⟩
    rw [ez]
    exact q z _ hs1
  · walk_at "go"
    exact q _ _ hs1
theorem x_lpg {H : Hp} {Q : VK} {E : XK} {c n : Int} (q : ∀ (x : Int) H', Same H H' → Q (.int x) H') (hn : 1 ≤ n ∧ n ≤ 256) : spPageL [.int c, .int n] H Q E := ⟨c, n, rfl, hn, q⟩
def spSpoil (K : PySem.W.Frag) : Sp := fun vs H Q _ => ∃ (a : Addr) (xs : List V) (l : List (Int × Int)) (c n w : Int), vs = [.ref a, .int c, .int n, .int w] ∧ H a = some (.lst xs) ∧ PairL H xs l ∧ (∀ e ∈ l, 0 ≤ e.1 ∧ e.1 ≤ 63) ∧ l.length ≤ 150 ∧ (1 ≤ n ∧ n ≤ 256) ∧
  ∀ p ys l' H', Same H H' → H p = none → H' p = some (.lst ys) → PairL H' ys l' → (∀ e ∈ l', 0 ≤ e.1 ∧ e.1 ≤ 63) → l'.length ≤ l.length + 1 → Q (.ref p) H'
theorem ok_spoiled (T : Txt K mg) : FO P w K mg base 2 T.a__law_spoiled T.fd__law_spoiled ["_law_told", "_law_cell", "_law_size", "_law_way"] (spSpoil K) := by
  have sc := sc__law_spoiled
  refine T.F__law_spoiled.okX sc (fun vs H Q E h => ?_) (fun cdv A outer s H vs Q E hr h => ?_)
  · obtain ⟨_, _, _, _, _, _, rfl, _⟩ := h
    rfl
  obtain ⟨a, xs, l, c, n, ww, rfl, hx, hl, hr63, hll, hn, q⟩ := h
  refine ⟨_, (pss_cons (ps_set (i := 4) sc.nd rfl (by first | exact Or.inl rfl | exact Or.inr rfl) (pe_op op_mod (pe_op op_fdivW (pv 1) pe_int) (pe_op op_uAdd (pe_callB (cr_ulen) (by rfl) T.b_len bt_len (pa_cons (pv 0) pa_nil)) pe_int)))
      (pss_cons (ps_set (i := 5) sc.nd rfl (by first | exact Or.inl rfl | exact Or.inr rfl) (pe_callS (ok_page T) (hr.mono (by decide)) (by rfl) T.g__law_page T.k__law_page T.bd__law_page (passAt (takes_of rfl rfl rfl rfl)) (pa_cons (pe_op op_fdivW (pv 1) pe_int) (pa_cons (pv 2) pa_nil))))
      (pss_cons (ps_set (i := 6) sc.nd rfl (by first | exact Or.inl rfl | exact Or.inr rfl) (pe_callS (ok_name T) (hr.mono (by decide)) (by rfl) T.g__law_name T.k__law_name T.bd__law_name (passAt (takes_of rfl rfl rfl rfl)) (pa_cons (pe_op op_mod (pe_callS (ok_mix T) (hr.mono (by decide)) (by rfl) T.g__law_mix T.k__law_mix T.bd__law_mix (passAt (takes_of rfl rfl rfl rfl)) (pa_cons (pv 1) (pa_cons pe_int pa_nil))) pe_int) (pa_cons (pv 3) pa_nil))))
      (pss_cons (ps_if (PW.pt (pw_or (pt_cmpR (op_uEq hr.units) (pe_op op_mod (pv 1) pe_int) pe_int (nomark _)) (pw_or1 (pt_cmpR (op_uEq hr.units) (pv 4) (pe_callB (cr_ulen) (by rfl) T.b_len bt_len (pa_cons (pv 0) pa_nil)) (nomark _))))) (pss_one (ps_ret (pe_op op_uAdd (pe_op op_uAdd (pe_slice sl_u (pv 0) po_none (po_some (pv 4))) (pe_lst (pa_cons (pe_tup (pa_cons (pv 6) (pa_cons (pv 5) pa_nil))) pa_nil))) (pe_slice sl_u (pv 0) (po_some (pv 4)) po_none)))) pss_nil)
      (pss_cons (ps_if (pt_cmpR (op_uEq hr.units) (pe_op op_mod (pv 1) pe_int) pe_int (nomark _)) (pss_one (ps_ret (pe_op op_uAdd (pe_op op_uAdd (pe_slice sl_u (pv 0) po_none (po_some (pv 4))) (pe_lst (pa_cons (pe_tup (pa_cons (pe_ix ix_seq (pe_ix ix_seq (pv 0) (pv 4) (fun _ _ => rfl)) pe_int (fun _ _ => rfl)) (pa_cons (pv 5) pa_nil))) pa_nil))) (pe_slice sl_u (pv 0) (po_some (pe_op op_uAdd (pv 4) pe_int)) po_none)))) pss_nil)
      (pss_cons (ps_if (pt_cmpR (op_uEq hr.units) (pe_op op_mod (pv 1) pe_int) pe_int (nomark _)) (pss_one (ps_ret (pe_op op_uAdd (pe_op op_uAdd (pe_slice sl_u (pv 0) po_none (po_some (pv 4))) (pe_lst (pa_cons (pe_tup (pa_cons (pv 6) (pa_cons (pe_ix ix_seq (pe_ix ix_seq (pv 0) (pv 4) (fun _ _ => rfl)) pe_int (fun _ _ => rfl)) pa_nil))) pa_nil))) (pe_slice sl_u (pv 0) (po_some (pe_op op_uAdd (pv 4) pe_int)) po_none)))) pss_nil)
      (pss_cons (ps_if (pt_cmpR (op_uEq hr.units) (pe_op op_mod (pv 1) pe_int) pe_int (nomark _)) (pss_one (ps_ret (pe_op op_uAdd (pe_slice sl_u (pv 0) po_none (po_some (pv 4))) (pe_slice sl_u (pv 0) (po_some (pe_op op_uAdd (pv 4) pe_int)) po_none)))) pss_nil)
      (pss_one (ps_ret (pe_op op_uAdd (pe_op op_uAdd (pe_slice sl_u (pv 0) po_none (po_some (pv 4))) (pe_lst (pa_cons (pe_ix ix_seq (pv 0) (pv 4) (fun _ _ => rfl)) pa_nil))) (pe_slice sl_u (pv 0) (po_some (pv 4)) po_none))))))))))), ?_⟩
  have hxl : xs.length = l.length := hl.1
  have hat : 0 ≤ c / 5 % ((xs.length : Int) + 1) ∧ c / 5 % ((xs.length : Int) + 1) < (xs.length : Int) + 1 := ⟨Int.emod_nonneg _ (by omega), Int.emod_lt_of_pos _ (by omega)⟩
  have hmd : 0 < (xs.length : Int) + 1 := by omega
  have hmx := mix_rng (c := c) (k := 3)
  walk_at "begin"
  walk_at "go"
  generalize c / 5 % ((xs.length : Int) + 1) = at0 at hat ⊢
  refine x_lpg (fun pg H1 hs1 => ?_) hn
  have hx1 := hs1 _ _ hx
  have hl1 := hl.mono (TupS.of hs1)
  walk_at "go"
  refine x_name (fun sh hsh => ?_) (by omega)
  walk_at "go"
  walk_at "if"
  obtain ⟨m, rfl⟩ : ∃ m : Nat, at0 = (m : Int) := Int.eq_ofNat_of_zero_le hat.1
  have cm : ∀ {lo hi : Option Int} {x : V}, x ∈ cutV xs lo hi → x ∈ xs := fun {lo hi x} h => by
    unfold cutV at h
    exact List.mem_of_mem_drop (List.mem_of_mem_take h)
  have c1 := cutV_length xs none (some (m : Int))
  have c2 := cutV_length xs (some (m : Int)) none
  have c3 := cutV_length xs (some ((m : Int) + 1)) none
  have s1 : (cutV xs none (some (m : Int))).length + (cutV xs (some (m : Int)) none).length ≤ xs.length := by
    rw [cutV_to, cutV_from, List.length_take, List.length_drop]; omega
  have s2 : (cutV xs none (some (m : Int))).length + (cutV xs (some ((m : Int) + 1)) none).length ≤ xs.length := by
    rw [cutV_to, show ((m : Int) + 1) = ((m + 1 : Nat) : Int) by omega, cutV_from, List.length_take, List.length_drop]; omega
  have fin : ∀ p ys H', Same H1 H' → H1 p = none → H' p = some (.lst ys) → (∀ y ∈ ys, y ∈ xs ∨ ∃ (t : Addr) (e : Int × Int), y = .ref t ∧ H' t = some (.tup [.int e.1, .int e.2]) ∧ 0 ≤ e.1 ∧ e.1 ≤ 63) → ys.length ≤ xs.length + 1 → Q (.ref p) H' := fun p ys H' s hp hn hy hl => by
    have hh : ∀ x ∈ ys, ∃ (t : Addr) (e : Int × Int), x = .ref t ∧ H' t = some (.tup [.int e.1, .int e.2]) ∧ 0 ≤ e.1 ∧ e.1 ≤ 63 := fun x hx => by
      rcases hy x hx with z | z
      · obtain ⟨j, hj⟩ := List.getElem?_of_mem z
        have hjl := (List.getElem?_eq_some_iff.mp hj).1
        obtain ⟨t, e1, e2⟩ := hl1.2 j x _ hj (List.getElem?_eq_getElem (by omega))
        exact ⟨t, _, e1, s _ _ e2, hr63 _ (List.getElem_mem _)⟩
      · exact z
    refine q p ys (ys.map (pairV H')) H' (hs1.trans s) (same_none hs1 hp) hn ⟨by rw [List.length_map], fun i x e h1 h2 => ?_⟩ (fun e he => ?_) (by rw [List.length_map]; omega)
    · rw [List.getElem?_map, h1] at h2
      cases h2
      obtain ⟨t, e, rfl, ht, _⟩ := hh x (List.mem_of_getElem? h1)
      refine ⟨t, rfl, ?_⟩
      rw [pairV_ref ht]
      exact ht
    · obtain ⟨x, hx, rfl⟩ := List.mem_map.mp he
      obtain ⟨t, e, rfl, ht, h0⟩ := hh x hx
      rw [pairV_ref ht]
      exact h0
  have lim : ∀ n : Nat, n ≤ 1000 → n ≤ sizeLine := fun n h => line_len h
  by_cases h0 : c % 5 = 0
  · rw [if_pos (decide_eq_true h0)]
    walk_at "go"
    all_goals (try (exact lim _ (by first | omega | (simp only [List.length_append, List.length_cons, List.length_nil]; omega))))
    rename_i p1 G1 hp1 g1 n1 p2 G2 hp2 g2 n2 p3 G3 hp3 g3 n3 p4 G4 hp4 g4 n4 p5 G5 hp5 g5 n5 p6 G6 hp6 g6 n6
    have t26 := ((g3.trans g4).trans g5).trans g6
    refine fin p6 _ G6 ((g1.trans g2).trans t26) (same_none ((((g1.trans g2).trans g3).trans g4).trans g5) hp6) n6 (fun y hy => ?_) (by simp only [List.length_append, List.length_cons, List.length_nil]; omega)
    rcases List.mem_append.mp hy with hy | hy
    · rcases List.mem_append.mp hy with hy | hy
      · exact .inl (cm hy)
      · rw [List.mem_singleton.mp hy]
        exact .inr ⟨p2, (sh, pg), rfl, t26 _ _ n2, hsh⟩
    · exact .inl (cm hy)
  rw [if_neg (by rw [decide_eq_false h0]; decide)]
  walk_at "go"
  by_cases hla : (m : Int) = (xs.length : Int)
  · rw [if_pos (decide_eq_true hla)]
    walk_at "go"
    all_goals (try (exact lim _ (by first | omega | (simp only [List.length_append, List.length_cons, List.length_nil]; omega))))
    rename_i p1 G1 hp1 g1 n1 p2 G2 hp2 g2 n2 p3 G3 hp3 g3 n3 p4 G4 hp4 g4 n4 p5 G5 hp5 g5 n5 p6 G6 hp6 g6 n6
    have t26 := ((g3.trans g4).trans g5).trans g6
    refine fin p6 _ G6 ((g1.trans g2).trans t26) (same_none ((((g1.trans g2).trans g3).trans g4).trans g5) hp6) n6 (fun y hy => ?_) (by simp only [List.length_append, List.length_cons, List.length_nil]; omega)
    rcases List.mem_append.mp hy with hy | hy
    · rcases List.mem_append.mp hy with hy | hy
      · exact .inl (cm hy)
      · rw [List.mem_singleton.mp hy]
        exact .inr ⟨p2, (sh, pg), rfl, t26 _ _ n2, hsh⟩
    · exact .inl (cm hy)
  rw [if_neg (by rw [decide_eq_false hla]; decide)]
  have hml : m < xs.length := by omega
  have hmI : 0 ≤ (m : Int) ∧ (m : Int) < (xs.length : Int) := by omega
  obtain ⟨tm, em, hgt, htm, hem⟩ : ∃ (t : Addr) (e : Int × Int), xs.getD m .non = .ref t ∧ H1 t = some (.tup [.int e.1, .int e.2]) ∧ 0 ≤ e.1 ∧ e.1 ≤ 63 := by
    obtain ⟨t, e1, e2⟩ := hl1.2 m _ _ (List.getElem?_eq_getElem hml) (List.getElem?_eq_getElem (show m < l.length by omega))
    exact ⟨t, _, by rw [List.getD_eq_getElem?_getD, List.getElem?_eq_getElem hml]; exact e1, e2, hr63 _ (List.getElem_mem _)⟩
  walk_at "go"
  walk_at "if"
  refine x_iteD (fun _ => ?_) (fun _ => ?_)
  · walk_at "go"
    rw [Int.toNat_natCast, hgt]
    rename_i p1 G1 hp1 g1 n1
    have htm' := g1 _ _ htm
    walk_at "go"
    all_goals (try (exact lim _ (by first | omega | (simp only [List.length_append, List.length_cons, List.length_nil]; omega))))
    rename_i p2 G2 hp2 g2 n2 p3 G3 hp3 g3 n3 p4 G4 hp4 g4 n4 p5 G5 hp5 g5 n5 p6 G6 hp6 g6 n6
    have t26 := ((g3.trans g4).trans g5).trans g6
    refine fin p6 _ G6 ((g1.trans g2).trans t26) (same_none ((((g1.trans g2).trans g3).trans g4).trans g5) hp6) n6 (fun y hy => ?_) (by simp only [List.length_append, List.length_cons, List.length_nil]; omega)
    rcases List.mem_append.mp hy with hy | hy
    · rcases List.mem_append.mp hy with hy | hy
      · exact .inl (cm hy)
      · rw [List.mem_singleton.mp hy]
        exact .inr ⟨p2, (em.1, pg), rfl, t26 _ _ n2, hem⟩
    · exact .inl (cm hy)
  walk_at "go"
  walk_at "if"
  refine x_iteD (fun _ => ?_) (fun _ => ?_)
  · walk_at "go"
    rw [Int.toNat_natCast, hgt]
    rename_i p1 G1 hp1 g1 n1
    have htm' := g1 _ _ htm
    walk_at "go"
    all_goals (try (exact lim _ (by first | omega | (simp only [List.length_append, List.length_cons, List.length_nil]; omega))))
    rename_i p2 G2 hp2 g2 n2 p3 G3 hp3 g3 n3 p4 G4 hp4 g4 n4 p5 G5 hp5 g5 n5 p6 G6 hp6 g6 n6
    have t26 := ((g3.trans g4).trans g5).trans g6
    refine fin p6 _ G6 ((g1.trans g2).trans t26) (same_none ((((g1.trans g2).trans g3).trans g4).trans g5) hp6) n6 (fun y hy => ?_) (by simp only [List.length_append, List.length_cons, List.length_nil]; omega)
    rcases List.mem_append.mp hy with hy | hy
    · rcases List.mem_append.mp hy with hy | hy
      · exact .inl (cm hy)
      · rw [List.mem_singleton.mp hy]
        exact .inr ⟨p2, (sh, em.2), rfl, t26 _ _ n2, hsh⟩
    · exact .inl (cm hy)
  walk_at "go"
  walk_at "if"
  refine x_iteD (fun _ => ?_) (fun _ => ?_)
  · walk_at "go"
    all_goals (try (exact lim _ (by first | omega | (simp only [List.length_append, List.length_cons, List.length_nil]; omega))))
    rename_i p1 G1 hp1 g1 n1 p2 G2 hp2 g2 n2 p3 G3 hp3 g3 n3
    refine fin p3 _ G3 ((g1.trans g2).trans g3) (same_none (g1.trans g2) hp3) n3 (fun y hy => ?_) (by simp only [List.length_append]; omega)
    rcases List.mem_append.mp hy with hy | hy <;> exact .inl (cm hy)
  · walk_at "go"
    all_goals (try (exact lim _ (by first | omega | (simp only [List.length_append, List.length_cons, List.length_nil]; omega))))
    rename_i p1 G1 hp1 g1 n1 p3 G3 hp3 g3 n3 p4 G4 hp4 g4 n4 p5 G5 hp5 g5 n5 p6 G6 hp6 g6 n6
    have tall := (((g1.trans g3).trans g4).trans g5).trans g6
    refine fin p6 _ G6 tall (same_none (((g1.trans g3).trans g4).trans g5) hp6) n6 (fun y hy => ?_) (by simp only [List.length_append, List.length_cons, List.length_nil]; omega)
    rcases List.mem_append.mp hy with hy | hy
    · rcases List.mem_append.mp hy with hy | hy
      · exact .inl (cm hy)
      · rw [List.mem_singleton.mp hy, Int.toNat_natCast, hgt]
        exact .inr ⟨tm, em, rfl, tall _ _ htm, hem⟩
    · exact .inl (cm hy)
/-! ### the law's own looker -/
def strS : Option Str → Str
  | none => ""
  | some s => s
def spSortL (T : Txt K mg) : Sp := fun vs H Q _ => ∃ (rc d : Addr) (F : CF) (q : Pc) (k : Bk) (sh pg : Int), vs = [.ref rc, .int (q.b * q.p), .ref d, .int sh, .int pg] ∧ ChipP T.C_Chip H rc F q ∧ FdAt H d q.ct k ∧ (∀ i e, q.ct.getD i none = some e → 0 ≤ e.1 ∧ e.1 % 128 ≤ 64) ∧ (q.ct.length : Int) = q.b * q.p ∧ q.dark = false ∧ (0 ≤ sh ∧ sh ≤ 63) ∧ Q (.str (strS (faultQ q k sh pg))) H
theorem ok_sort (T : Txt K mg) : FO P w K mg base 5 T.a__law_sort T.fd__law_sort ["_law_chip", "_law_size", "_law_found_here", "_law_sheet", "_law_page_here"] (spSortL T) := by
  have sc := sc__law_sort
  refine T.F__law_sort.okX sc (fun vs H Q E h => ?_) (fun cdv A outer s H vs Q E hr h => ?_)
  · obtain ⟨_, _, _, _, _, _, _, rfl, _⟩ := h
    rfl
  obtain ⟨rc, d, F, q, k, sh, pg, rfl, hC, hD, hm, hlen, hd, hsh, h⟩ := h
  refine ⟨_, (pss_cons (ps_if (PW.pt (pw_or (pt_not (pt_chain op_le op_uLt pe_int (pv 4) (pv 1))) (pw_or1 (pt_cmpR op_uIs (pe_methD (k := 4) (pv 0) (hr.mono (by decide)) (passAt (takes_of rfl rfl rfl rfl)) (pa_cons (pv 4) pa_nil)) pe_non (nomark _))))) (pss_one (ps_ret pe_str)) pss_nil)
      (pss_cons (ps_if (pt_cmpR (op_uNe hr.units) (pe_op op_and (pe_ix ix_seq (pe_methD (k := 4) (pv 0) (hr.mono (by decide)) (passAt (takes_of rfl rfl rfl rfl)) (pa_cons (pv 4) pa_nil)) pe_int (fun _ _ => rfl)) pe_int) (pv 3) (nomark _)) (pss_one (ps_ret pe_str)) pss_nil)
      (pss_cons (ps_if (pt_cmp (pc_dnotin (hu_of hr) (pv 3) (pv 2))) (pss_one (ps_ret pe_str)) pss_nil)
      (pss_cons (ps_if (pt_cmpR (op_uNe hr.units) (pe_ix ix_seq (pe_dget (hu_of hr) (pv 2) (pv 3) (fun _ _ => rfl)) pe_int (fun _ _ => rfl)) (pv 4) (nomark _)) (pss_one (ps_ret pe_str)) pss_nil)
      (pss_one (ps_ret pe_str)))))), ?_⟩
  obtain ⟨zs, kv, ps, k1, k2, k3, k4, k5, k6⟩ := hD.ex
  obtain ⟨st, hC, hst⟩ := hC
  have ho := hC.obj
  unfold chipF Pc.toC at ho
  dsimp only at ho
  have hsz := hC.sz
  have hb : 2 ≤ q.b ∧ q.b ≤ 16 := hsz.b
  have hp : 1 ≤ q.p ∧ q.p ≤ 16 := hsz.p
  have hbp : q.b * q.p ≤ 16 * 16 := Int.mul_le_mul hb.2 hp.2 (by omega) (by decide)
  have hb0 : 0 ≤ q.b * q.p := Int.mul_nonneg (by omega) (by omega)
  unfold faultQ at h
  walk_at "begin"
  walk_at "if"
  by_cases h0 : 0 ≤ pg
  rotate_left
  · rw [if_pos (show ¬ (0 ≤ pg ∧ pg ≤ q.b * q.p - 1) from fun z => h0 z.1)] at h
    rw [if_neg (by rw [decide_eq_false h0]; decide)]
    walk_at "go"
    exact h
  rw [if_pos (decide_eq_true h0)]
  walk_at "go"
  by_cases h1 : pg < q.b * q.p
  rotate_left
  · rw [if_pos (show ¬ (0 ≤ pg ∧ pg ≤ q.b * q.p - 1) from fun z => h1 (by omega))] at h
    rw [decide_eq_false h1]
    walk_at "go"
    exact h
  rw [if_neg (show ¬ ¬ (0 ≤ pg ∧ pg ≤ q.b * q.p - 1) from fun z => z ⟨h0, by omega⟩)] at h
  rw [decide_eq_true h1]
  have hil : pg.toNat < st.length := by have := hst.1; omega
  have rd : ∀ (Q' : VK) (E' : XK), Q' (st.getD pg.toNat .non) H → spRead T [.ref rc, .int pg] H Q' E' := fun Q' E' h' => x_read hC hd (by rw [show (q.toC st).stuff = st from rfl]; exact h') ⟨h0, by have : (q.toC st).b * (q.toC st).p = q.b * q.p := rfl; omega⟩
  walk_at "go"
  refine x_mRead hC ?_
  walk_at "go"
  refine rd _ _ ?_
  rcases hst.2 pg.toNat hil with ⟨c1, c2⟩ | ⟨a, m, x, c1, c2, c3⟩
  · rw [c1] at h
    rw [c2]
    walk_at "go"
    rw [if_pos (show decide (V.non = V.non) = true from decide_eq_true rfl)]
    walk_at "go"
    exact h
  rw [c1] at h
  have hm0 := hm _ _ c1
  dsimp only at h hm0
  rw [c2] at rd ⊢
  walk_at "go"
  rw [if_neg (show ¬ decide (V.ref a = V.non) = true by rw [decide_eq_false (fun z => by cases z)]; decide)]
  walk_at "go"
  walk_at "if"
  refine x_mRead hC ?_
  walk_at "go"
  refine rd _ _ ?_
  walk_at "go"
  rw [mk_and hm0.1]
  refine x_iteD (fun he => ?_) (fun hne => ?_)
  rotate_left
  · rw [if_pos hne] at h
    walk_at "go"
    exact h
  rw [if_neg (fun z => z he)] at h
  walk_at "go"
  walk_at "if"
  have h64 : sh ≠ 64 := by omega
  have e6 := k6 sh h64
  cases hg : getI kv sh with
  | none =>
    rw [hg] at e6
    have hw : getI k.wh sh = none := by
      cases hx : getI k.wh sh with
      | none => rfl
      | some y => rw [hx] at e6; cases e6
    rw [hw] at h
    have hvn : valV (kvF (fZ zs) kv) (.inl sh) = none := by rw [valV_F, hg]; rfl
    rw [hvn]
    walk_at "go"
    exact h
  | some ix =>
    obtain ⟨i0, y, y1, y2, y3, _⟩ := k5 sh ix hg
    rw [y2] at h
    dsimp only at h
    have hzl : zs.length = ps.length := k2.1
    have hil2 := (List.getElem?_eq_some_iff.mp y1).1
    obtain ⟨zx, hzx⟩ : ∃ zx, zs[ix.toNat]? = some zx := ⟨_, List.getElem?_eq_getElem (by omega)⟩
    obtain ⟨tr, e1, htr⟩ := k2.2 _ _ _ hzx y1
    have hvd : valV (kvF (fZ zs) kv) (.inl sh) = some (.ref tr) := by
      rw [valV_F, hg]
      show some (fZ zs ix) = _
      unfold fZ
      rw [List.getD_eq_getElem?_getD, hzx]
      exact congrArg some e1
    rw [hvd]
    walk_at "go"
    refine iteT ?_
    walk_at "go"
    walk_at "if"
    refine x_dgI k1 hvd ?_
    walk_at "go"
    refine x_iteD (fun he => ?_) (fun hne => ?_)
    · rw [if_neg (fun z => z he)] at h
      walk_at "go"
      exact h
    · rw [if_pos hne] at h
      walk_at "go"
      exact h
/-- what a law's own looker finds -/
theorem FdAt.mono {H H' : Hp} {d : Addr} {c : Ct} {k : Bk} (s : Same H H') (h : FdAt H d c k) : FdAt H' d c k := by
  obtain ⟨zs, kv, ps, k1, k2, k3⟩ := h.ex
  exact ⟨zs, kv, ps, s _ _ k1, k2.mono (TupS.of s), k3⟩
theorem FdAt.keys {H : Hp} {d : Addr} {q : Pc} {k : Bk} (hw : Wf q k) (h : FdAt H d q.ct k) : ∃ (zs : List V) (kv ps : List (Int × Int)), H d = some (.dK (kvF (fZ zs) kv)) ∧ PairL H zs ps ∧ (kvF (fZ zs) kv).map (·.1) = (kv.map (·.1)).map Sum.inl ∧ sortZ (kv.map (·.1)) = heldL k ∧ kv.length ≤ 63 ∧
    (∀ n ∈ heldL k, ∃ (t : Addr) (pg : Int), valV (kvF (fZ zs) kv) (.inl n) = some (.ref t) ∧ getI k.wh n = some pg ∧ H t = some (.tup [.int pg, .int (vlC q.ct pg.toNat)])) := by
  obtain ⟨zs, kv, ps, k1, k2, k3, k4, k5, k6⟩ := h.ex
  have hsp := sortZ_perm (kv.map (·.1))
  have hmem : ∀ n, n ∈ kv.map (·.1) ↔ n ∈ heldL k := fun n => by
    rw [heldL_mem]
    constructor
    · intro hn
      cases hg : getI kv n with
      | none => exact absurd hn (getI_key.mp hg)
      | some i =>
        obtain ⟨_, x, _, y, _, z⟩ := k5 n i hg
        exact ⟨⟨_, getI_mem y⟩, z⟩
    · rintro ⟨⟨pg, hp⟩, hn⟩
      have h1 := getI_of_mem hw.keys hp
      have h2 := k6 n hn
      rw [h1] at h2
      exact Decidable.byContradiction fun z => by rw [getI_key.mpr z] at h2; cases h2
  have nd1 : (heldL k).Nodup := (sortZ_perm _).nodup_iff.mpr (List.Nodup.sublist List.filter_sublist hw.keys)
  have hs : sortZ (kv.map (·.1)) = heldL k := by
    unfold heldL
    refine sortZ_eq ?_ (sortZ_pw _)
    exact hsp.trans (((List.perm_ext_iff_of_nodup k3 nd1).mpr hmem).trans (sortZ_perm _))
  refine ⟨zs, kv, ps, k1, k2, by unfold kvF; rw [List.map_map, List.map_map]; rfl, hs, k4, fun n hn => ?_⟩
  have hk := (hmem n).mpr hn
  obtain ⟨i, hi⟩ : ∃ i, getI kv n = some i := by
    cases hg : getI kv n with
    | none => exact absurd hk (getI_key.mp hg)
    | some i => exact ⟨i, rfl⟩
  obtain ⟨i0, x, x1, x2, x3, _⟩ := k5 n i hi
  have hil := (List.getElem?_eq_some_iff.mp x1).1
  obtain ⟨zx, hzx⟩ : ∃ zx, zs[i.toNat]? = some zx := ⟨_, List.getElem?_eq_getElem (by have := k2.1; omega)⟩
  obtain ⟨t, rfl, ht⟩ := k2.2 _ _ _ hzx x1
  refine ⟨t, x.1, ?_, x2, by rw [ht, x3]⟩
  rw [valV_F, hi]
  show some (fZ zs i) = _
  unfold fZ
  rw [List.getD_eq_getElem?_getD, hzx]
  rfl
def spDueF (T : Txt K mg) : Sp := fun vs H Q _ => ∃ (rc d a : Addr) (F : CF) (q : Pc) (k : Bk) (xs : List V) (told : List (Int × Int)), vs = [.ref rc, .int (q.b * q.p), .ref d, .ref a] ∧ ChipP T.C_Chip H rc F q ∧ FdAt H d q.ct k ∧ Wf q k ∧ (∀ i e, q.ct.getD i none = some e → 0 ≤ e.1 ∧ e.1 % 128 ≤ 64) ∧ q.dark = false ∧ H a = some (.lst xs) ∧ PairL H xs told ∧ told.length ≤ 200 ∧ (∀ e ∈ told, 0 ≤ e.1 ∧ e.1 ≤ 63) ∧
  ∀ p ys H', Same H H' → H p = none → H' p = some (.lst ys) → FltL H' ys (faultsQ q k told) → Q (.ref p) H'
theorem ok_due (T : Txt K mg) : FO P w K mg base 6 T.a__law_due T.fd__law_due ["_law_chip", "_law_size", "_law_found_here", "_law_told"] (spDueF T) := by
  have sc := sc__law_due
  refine T.F__law_due.okX sc (fun vs H Q E h => ?_) (fun cdv A outer s H vs Q E hr h => ?_)
  · obtain ⟨_, _, _, _, _, _, _, _, rfl, _⟩ := h
    rfl
  obtain ⟨rc, d, a, F, q, k, xs, told, rfl, hC, hD, hw, hm, hdk, ha, hT, hl, hr63, q2⟩ := h
  refine ⟨_, (pss_cons (ps_set (i := 4) sc.nd rfl (by first | exact Or.inl rfl | exact Or.inr rfl) (pe_lst pa_nil))
      (pss_cons (ps_set (i := 5) sc.nd rfl (by first | exact Or.inl rfl | exact Or.inr rfl) pe_dnewK)
      (pss_cons (ps_for (passes_of rfl) rfl (pi_list (pv 3)) (pg_tup (by rfl) (pgs_cons (pg_name (i := 6) sc.nd rfl (by first | exact Or.inl rfl | exact Or.inr rfl)) (pgs_cons (pg_name (i := 7) sc.nd rfl (by first | exact Or.inl rfl | exact Or.inr rfl)) pgs_nil))) (pss_cons (ps_set (i := 8) sc.nd rfl (by first | exact Or.inl rfl | exact Or.inr rfl) (pe_callS (ok_sort T) (hr.mono (by decide)) (by rfl) T.g__law_sort T.k__law_sort T.bd__law_sort (passAt (takes_of rfl rfl rfl rfl)) (pa_cons (pv 0) (pa_cons (pv 1) (pa_cons (pv 2) (pa_cons (pv 6) (pa_cons (pv 7) pa_nil)))))))
      (pss_cons (ps_if (pt_cmp (pc_din (hu_of hr) (pv 6) (pv 5))) (pss_one (ps_set (i := 8) sc.nd rfl (by first | exact Or.inl rfl | exact Or.inr rfl) pe_str)) pss_nil)
      (pss_cons (ps_if (pt_cmpR (op_uNe hr.units) (pv 8) pe_str (nomark _)) (pss_one (ps_expr (pe_bm PySem.F.plainAttrs_list PySem.F.slot_list_append PySem.F.type_list_append mt_append (pv 4) (pa_cons (pe_tup (pa_cons (pv 6) (pa_cons (pv 7) (pa_cons (pv 8) pa_nil)))) pa_nil)))) pss_nil)
      (pss_one (ps_dput (hu_of hr) (pv 5) (pv 6) (pv 7) rfl))))))
      (pss_cons (ps_for (passes_of rfl) rfl (pi_list (pe_callB (cr_usorted) (by rfl) T.b_sorted bt_sorted (pa_cons (pv 2) pa_nil))) (pg_name (i := 6) sc.nd rfl (by first | exact Or.inl rfl | exact Or.inr rfl)) (pss_one (ps_if (pt_cmp (pc_dnotin (hu_of hr) (pv 6) (pv 5))) (pss_one (ps_expr (pe_bm PySem.F.plainAttrs_list PySem.F.slot_list_append PySem.F.type_list_append mt_append (pv 4) (pa_cons (pe_tup (pa_cons (pv 6) (pa_cons (pe_ix ix_seq (pe_dget (hu_of hr) (pv 2) (pv 6) (fun _ _ => rfl)) pe_int (fun _ _ => rfl)) (pa_cons pe_str pa_nil)))) pa_nil)))) pss_nil)))
      (pss_one (ps_ret (pv 4))))))), ?_⟩
  have hyl : xs.length = told.length := hT.1
  walk_at "begin"
  walk_at "go"
  rename_i p3 H2a hp3 hs2a hn3a p4 H2 hp4 hs2b hn4
  have hn3 := hs2b _ _ hn3a
  have h34 : p3 ≠ p4 := ne_of_none hn3a hp4
  have hp4' : H p4 = none := same_none hs2a hp4
  have s02 : Same H H2 := hs2a.trans hs2b
  clear hs2a hs2b hn3a
  refine x_seq ?_
  walk_at "go"
  refine x_frL (SqL.of (s02 _ _ ha)) (fun i σ H' => ∃ (v6 v7 v8 : Option V) (vs' : List V) (kn : List (Int × Int)), σ = [some (.ref rc), some (.int (q.b * q.p)), some (.ref d), some (.ref a), some (.ref p3), some (.ref p4), v6, v7, v8] ∧ Same H H' ∧ H' p3 = some (.lst vs') ∧ FltL H' vs' (flt1 q k [] (told.take i)) ∧ vs'.length ≤ i ∧ H' p4 = some (.dK (kvI kn)) ∧ kn.length ≤ i ∧ ∀ n, (getI kn n).isSome = decide (n ∈ (told.take i).map (·.1)))
    ⟨_, _, _, [], [], rfl, s02, hn3, FltL.nil, Nat.le_refl 0, hn4, Nat.le_refl 0, fun n => rfl⟩ (fun i σ H' _ h => by obtain ⟨_, _, _, _, _, _, s, _⟩ := h; exact SqL.of (s _ _ ha)) ?_ ?_
  · intro i y σ H3 hy ⟨v6, v7, v8, vs', kn, hσ, s03, hn3', hF, hvl, hn4', hkl, hkn⟩
    subst hσ
    have hil := (List.getElem?_eq_some_iff.mp hy).1
    obtain ⟨e, he⟩ : ∃ e, told[i]? = some e := ⟨_, List.getElem?_eq_getElem (by omega)⟩
    obtain ⟨t, rfl, ht⟩ := hT.2 i y e hy he
    have ht3 := s03 _ _ ht
    have etk : told.take (i + 1) = told.take i ++ [e] := by rw [List.take_add_one, he]; rfl
    rw [etk, flt1_snoc, List.nil_append]
    refine x_gtup2 (SqT.of ht3) ?_
    dsimp only [List.set]
    walk_at "go"
    refine ⟨rc, d, F, q, k, e.1, e.2, rfl, hC.mono s03, hD.mono s03, hm, hw.ctl, hdk, hr63 e (List.mem_of_getElem? he), ?_⟩
    walk_at "go"
    refine x_join (fun σ' H' => H' = H3 ∧ σ' = [some (.ref rc), some (.int (q.b * q.p)), some (.ref d), some (.ref a), some (.ref p3), some (.ref p4), some (.int e.1), some (.int e.2), some (.str (strS (if e.1 ∈ (told.take i).map (·.1) then some "twice" else faultQ q k e.1 e.2)))]) (fun R hR2 => ?_) ?_
    · walk_at "go"
      rw [valV_I, Option.isSome_map, hkn]
      by_cases hin : e.1 ∈ (told.take i).map (·.1)
      · rw [decide_eq_true hin]
        walk_at "go"
        exact hR2 _ _ ⟨rfl, by rw [if_pos hin]; rfl⟩
      · rw [decide_eq_false hin]
        walk_at "go"
        exact hR2 _ _ ⟨rfl, by rw [if_neg hin]⟩
    intro σ' H3' ⟨eH, hσ⟩
    subst hσ eH
    have hne : ∀ s, (if e.1 ∈ (told.take i).map (·.1) then some ("twice" : Str) else faultQ q k e.1 e.2) = some s → decide (V.str s = V.str "") = false := fun s hs => by
      have hs' : s = "twice" ∨ s = "nothing" ∨ s = "other" ∨ s = "gone" ∨ s = "old" := by
        split at hs
        · exact .inl (Option.some.inj hs).symm
        · unfold faultQ at hs
          repeat' split at hs
          all_goals first | (cases hs; done) | (have := Option.some.inj hs; subst this; simp)
      rcases hs' with rfl | rfl | rfl | rfl | rfl <;> exact decide_eq_false (fun z => by cases z)
    generalize (if e.1 ∈ (told.take i).map (·.1) then some ("twice" : Str) else faultQ q k e.1 e.2) = o at hne ⊢
    have hknl : (kvI kn).length ≤ 1000 := by rw [kvI_len]; omega
    have hknN : ∀ n, (getI (putI kn e.1 e.2) n).isSome = decide (n ∈ (told.take i ++ [e]).map (·.1)) := fun n => by
      rw [getI_put, List.map_append, List.map_cons, List.map_nil]
      by_cases z : n = e.1
      · rw [if_pos z, decide_eq_true (by rw [z]; exact List.mem_append_right _ List.mem_cons_self)]
        rfl
      · rw [if_neg z, hkn, decide_eq_decide, List.mem_append, List.mem_singleton]
        exact ⟨.inl, fun y => y.elim id fun y => absurd y z⟩
    have hknL : (putI kn e.1 e.2).length ≤ i + 1 := by have := putI_len (ps := kn) (n := e.1) (x := e.2); omega
    cases o with
    | none =>
      walk_at "if"
      refine x_neSc (by rfl) ?_
      rw [show decide (V.str (strS none) = V.str "") = true from decide_eq_true rfl]
      walk_at "go"
      refine x_dpI (kvs' := kvI (putI kn e.1 e.2)) hn4' putK_I (fun H4 hO4 hI4 => ?_) hknl
      have s14 := Off.same1 s03 hO4 hp4'
      exact ⟨_, _, _, vs', _, rfl, s14, hO4.at hn3' (nin_of h34), by rw [show flt0 none e.1 e.2 = [] from rfl, List.append_nil]; exact hF.mono (TupS.upd4 hO4 hn4'), Nat.le_succ_of_le hvl, hI4, hknL, hknN⟩
    | some z =>
      have hvsl : vs'.length < sizeLine := Nat.lt_of_le_of_lt (show _ ≤ 300 by omega) (by decide)
      walk_at "if"
      refine x_neSc (by rfl) ?_
      rw [show strS (some z) = z from rfl, hne z rfl]
      walk_at "go"
      rename_i t1 H4 ht1 hs4 hn5 H5 hO5 hI5
      have hn4'' : H5 p4 = some (.dK (kvI kn)) := hO5.at (hs4 _ _ hn4') (nin_of h34.symm)
      have s15 : Same H H5 := Off.same1 (s03.trans hs4) hO5 hp3
      have ht15 := hO5.at hn5 (fun y => by rw [List.mem_singleton.mp y, hn3'] at ht1; cases ht1)
      have hF5 : FltL H5 (vs' ++ [V.ref t1]) (flt1 q k [] (told.take i) ++ [(e.1, e.2, z)]) := (hF.mono ((TupS.of hs4).trans (hO5.tupsL (hs4 _ _ hn3')))).snoc ⟨t1, rfl, ht15⟩
      refine x_dpI (kvs' := kvI (putI kn e.1 e.2)) hn4'' putK_I (fun H6 hO6 hI6 => ?_) hknl
      have s16 := Off.same1 s15 hO6 hp4'
      exact ⟨_, _, _, _, _, rfl, s16, hO6.at hI5 (nin_of h34), hF5.mono (TupS.upd4 hO6 hn4''), by rw [List.length_append, List.length_singleton]; omega, hI6, hknL, hknN⟩
  · intro σ H3 ⟨v6, v7, v8, vs', kn, hσ, s03, hn3', hF, hvl, hn4', hkl, hkn⟩
    subst hσ
    rw [hyl, List.take_length] at hF hkn
    rw [hyl] at hvl hkl
    obtain ⟨zs, kv, ps, k1, k2, hks, hhl, hkvl, hget⟩ := hD.keys hw
    have k13 := s03 _ _ k1
    dsimp only
    refine x_seq ?_
    walk_at "go"
    refine x_sortD k13 hks (by rw [List.length_map]; omega) fun p5 H4 hp5 hs4 hn5 => ?_
    rw [hhl] at hn5
    have hn3'' := hs4 _ _ hn3'
    have hn4'' := hs4 _ _ hn4'
    have s04 := s03.trans hs4
    have hF4 := hF.mono (TupS.of hs4)
    have hp35 : p5 ≠ p3 := fun z => by rw [z, hn3'] at hp5; cases hp5
    clear hs4 hn3' hn4' hF s03 k13
    have hhll : (heldL k).length ≤ 63 := by rw [← hhl, (sortZ_perm _).length_eq, List.length_map]; exact hkvl
    refine x_frL (SqL.of hn5) (fun j σ H' => ∃ (v6 v7 v8 : Option V) (vs2 : List V), σ = [some (.ref rc), some (.int (q.b * q.p)), some (.ref d), some (.ref a), some (.ref p3), some (.ref p4), v6, v7, v8] ∧ Same H H' ∧ Off [p3] H4 H' ∧ H' p3 = some (.lst vs2) ∧ FltL H' vs2 (flt1 q k [] told ++ fltM k (told.map (·.1)) ((heldL k).take j)) ∧ vs2.length ≤ told.length + j)
      ⟨_, _, _, vs', rfl, s04, Off.refl, hn3'', by rw [show fltM k (told.map (·.1)) ((heldL k).take 0) = [] from rfl, List.append_nil]; exact hF4, by omega⟩ (fun j σ H' _ h => by obtain ⟨_, _, _, _, _, _, hO, _⟩ := h; exact SqL.of (hO.at hn5 (nin_of hp35))) ?_ ?_
    · intro j y σ H5 hy ⟨v6, v7, v8, vs2, hσ, s15, hO5, hn35, hF5, hvl2⟩
      subst hσ
      obtain ⟨n, hn, rfl⟩ : ∃ n, (heldL k)[j]? = some n ∧ y = .int n := by
        rw [List.getElem?_map] at hy
        cases e : (heldL k)[j]? with
        | none => rw [e] at hy; cases hy
        | some n => rw [e] at hy; cases hy; exact ⟨n, rfl, rfl⟩
      have hjl := (List.getElem?_eq_some_iff.mp hn).1
      have etk : fltM k (told.map (·.1)) ((heldL k).take (j + 1)) = fltM k (told.map (·.1)) ((heldL k).take j) ++ fltM k (told.map (·.1)) [n] := by
        unfold fltM
        rw [List.take_add_one, hn, List.filter_append, List.map_append]
        rfl
      rw [etk]
      have hn45 : H5 p4 = some (.dK (kvI kn)) := hO5.at hn4'' (nin_of h34.symm)
      have hvsl : vs2.length < sizeLine := Nat.lt_of_le_of_lt (show _ ≤ 2000 by omega) (by decide)
      have hO5' := hO5
      clear hO5
      walk_at "go"
      rw [valV_I, Option.isSome_map, hkn]
      by_cases hin : n ∈ told.map (·.1)
      · rw [decide_eq_true hin]
        walk_at "go"
        exact ⟨_, _, _, vs2, rfl, s15, hO5', hn35, by rw [show fltM k (told.map (·.1)) [n] = [] by unfold fltM; simp [hin], List.append_nil]; exact hF5, by omega⟩
      · rw [decide_eq_false hin]
        obtain ⟨t, pg, hvd, hpg, ht⟩ := hget n (List.mem_of_getElem? hn)
        have k15 := s15 _ _ k1
        have ht5 := s15 _ _ ht
        walk_at "go"
        refine x_dgI k15 hvd ?_
        walk_at "go"
        rename_i t1 H6 ht1 hs6 hn6 H7 hO7 hI7
        have ht17 := hO7.at hn6 (fun y => by rw [List.mem_singleton.mp y, hn35] at ht1; cases ht1)
        refine ⟨_, _, _, _, rfl, Off.same1 (s15.trans hs6) hO7 hp3, (hO5'.trans (Off.of hs6)).trans hO7, hI7, ?_, by rw [List.length_append, List.length_singleton]; omega⟩
        rw [show fltM k (told.map (·.1)) [n] = [((n, pg, ("missing" : Str)) : Int × Int × Str)] by unfold fltM; rw [List.filter_cons_of_pos (by simp [hin]), List.filter_nil, List.map_cons, hpg]; rfl, ← List.append_assoc]
        exact (hF5.mono ((TupS.of hs6).trans (hO7.tupsL (hs6 _ _ hn35)))).snoc ⟨t1, rfl, ht17⟩
    · intro σ H5 ⟨v6, v7, v8, vs2, hσ, s15, hO5, hn35, hF5, hvl2⟩
      subst hσ
      rw [List.length_map, List.take_length] at hF5
      clear hO5
      walk_at "go"
      exact q2 p3 vs2 H5 s15 hp3 hn35 hF5
/-! ### the law -/
def fltD (l : List (Int × Int × Str)) : PyData := .list (l.map fun e => .tuple [.int e.1, .int e.2.1, .str e.2.2])
def FltW (l : List (Int × Int × Str)) : Prop := ∀ e ∈ l, e.2.2 = "twice" ∨ e.2.2 = "nothing" ∨ e.2.2 = "other" ∨ e.2.2 = "gone" ∨ e.2.2 = "old" ∨ e.2.2 = "missing"
theorem fltD_sh {l : List (Int × Int × Str)} (h : FltW l) : Sh 9 (fltD l) := by
  refine Sh.list (k := 8) fun d hd => ?_
  obtain ⟨e, he, rfl⟩ := List.mem_map.mp hd
  refine Sh.tup (k := 7) fun d hd => ?_
  simp only [List.mem_cons, List.not_mem_nil, or_false] at hd
  rcases hd with rfl | rfl | rfl
  · exact Sh.int
  · exact Sh.int
  · rcases h e he with e | e | e | e | e | e <;> rw [e] <;> exact Sh.str (by decide +kernel)
theorem FltL.dp {H : Hp} {p : Addr} {vs : List V} {l : List (Int × Int × Str)} (h : FltL H vs l) (hp : H p = some (.lst vs)) : Dp K H (.ref p) (fltD l) := by
  refine .lst (SqL.of hp) (dpAll_of (by rw [List.length_map]; exact h.1) fun i v d h1 h2 => ?_)
  rw [List.getElem?_map] at h2
  cases e : l[i]? with
  | none => rw [e] at h2; simp at h2
  | some t =>
    rw [e] at h2
    simp at h2
    subst h2
    obtain ⟨a, rfl, ha⟩ := h.2 i v t h1 e
    exact .tup (SqT.of ha) (.cons (.int _) (.cons (.int _) (.cons (.str _) .nil)))
theorem faultQ_w {q : Pc} {k : Bk} {sh pg : Int} {s : Str} (h : faultQ q k sh pg = some s) : s = "nothing" ∨ s = "other" ∨ s = "gone" ∨ s = "old" := by
  unfold faultQ at h
  repeat' split at h
  all_goals first | (cases h; done) | (have := Option.some.inj h; subst this; simp)
theorem flt1_w {q : Pc} {k : Bk} : ∀ {l : List (Int × Int)} {prev : List Int}, FltW (flt1 q k prev l)
  | [], _ => fun e h => by cases h
  | x :: l, prev => fun e h => by
    rcases List.mem_append.mp h with h | h
    · unfold flt0 at h
      split at h
      · cases h
      · rename_i s hs
        rw [List.mem_singleton.mp h]
        split at hs
        · exact .inl (Option.some.inj hs).symm
        · rcases faultQ_w hs with z | z | z | z
          · exact .inr (.inl z)
          · exact .inr (.inr (.inl z))
          · exact .inr (.inr (.inr (.inl z)))
          · exact .inr (.inr (.inr (.inr (.inl z))))
    · exact flt1_w e h
theorem faultsQ_w {q : Pc} {k : Bk} {l : List (Int × Int)} : FltW (faultsQ q k l) := fun e h => by
  rcases List.mem_append.mp h with h | h
  · exact flt1_w e h
  · obtain ⟨n, _, rfl⟩ := List.mem_map.mp h
    exact .inr (.inr (.inr (.inr (.inr rfl))))
/-- a right list has no faults -/
theorem flt1_nil {q : Pc} {k : Bk} (hw : Wf q k) (hb : Rb0 q.ct k) : ∀ {l : List (Int × Int)} {prev : List Int}, (l.map (·.1)).Nodup → (∀ e ∈ l, getI k.wh e.1 = some e.2 ∧ e.1 ∉ prev) → flt1 q k prev l = []
  | [], _, _, _ => rfl
  | x :: l, prev, hn, h => by
    rw [List.map_cons, List.nodup_cons] at hn
    obtain ⟨hg, hp⟩ := h x List.mem_cons_self
    have hbk := hw.bk.wh _ (getI_mem hg)
    rw [hw.kb, hw.kp] at hbk
    dsimp only at hbk
    obtain ⟨⟨e, he⟩, _⟩ := hw.own _ _ hg
    have hnm := (hb.wr _ _ hg).2.1
    unfold nmC at hnm
    rw [he] at hnm
    have hnm : e.1 % 128 = x.1 := hnm
    have hf : faultQ q k x.1 x.2 = none := by
      unfold faultQ
      rw [if_neg (fun z => z ⟨hbk.1, by omega⟩), he]
      dsimp only
      rw [if_neg (fun z => z hnm), hg]
      dsimp only
      rw [if_neg (fun z => z rfl)]
    show flt0 _ _ _ ++ flt1 q k (prev ++ [x.1]) l = []
    rw [if_neg hp, hf, flt1_nil hw hb hn.2 fun e' he' => ⟨(h e' (List.mem_cons_of_mem _ he')).1, fun z => ?_⟩]
    · rfl
    · rcases List.mem_append.mp z with z | z
      · exact (h e' (List.mem_cons_of_mem _ he')).2 z
      · exact hn.1 (List.mem_map.mpr ⟨e', he', List.mem_singleton.mp z⟩)
theorem fltM_nil {k : Bk} {l hs : List Int} (h : ∀ n ∈ hs, n ∈ l) : fltM k l hs = [] := by
  unfold fltM
  rw [List.filter_eq_nil_iff.mpr fun n hn => by rw [decide_eq_true (h n hn)]; decide]
  rfl
theorem x_faultsK {T : Txt K mg} {H : Hp} {Q : VK} {E : XK} {rc a : Addr} {F : CF} {q : Pc} {k : Bk} {ys : List V} {told : List (Int × Int)} (hC : ChipP T.C_Chip H rc F q) (hw : Wf q k) (hb : RbS ⟨q, k, [], .by fun _ _ _ _ => false⟩) (hst : k.stamp < 10 ^ 39) (hn : (rowsC q.ct).length < 64) (hd : q.dark = false) (ha : H a = some (.lst ys)) (hT : PairL H ys told) (hl : told.length ≤ 200)
    (q2 : ∀ p vs' H', Same H H' → H p = none → H' p = some (.lst vs') → FltL H' vs' (faultsQ q k told) → Q (.ref p) H') : spFaults T [.ref rc, .ref a] H Q E := by
  have er := rebuild hw hb.1 hb.2 hst
  rw [hw.kb, hw.kp] at er
  have ok := rb_ok (s := ⟨q, k, [], .by fun _ _ _ _ => false⟩) hw hb hst hn
  refine ⟨rc, a, F, q, ys, told, rfl, hC, ok.1, ok.2, SqL.of ha, hT, hl, (fun z => by rw [hd] at z; cases z), fun _ => ?_⟩
  rw [er]
  exact q2
theorem PairL.of_mem {H : Hp} {xs ys : List V} {l : List (Int × Int)} (h : PairL H xs l) (hy : ∀ y ∈ ys, y ∈ xs) : PairL H ys (ys.map (pairV H)) := by
  refine ⟨by rw [List.length_map], fun i x e h1 h2 => ?_⟩
  rw [List.getElem?_map, h1] at h2
  cases h2
  obtain ⟨t, e, ht⟩ := h.mem (hy x (List.mem_of_getElem? h1))
  exact ⟨t, e, ht⟩
def spLaw (K : PySem.W.Frag) : Sp := fun vs H Q _ => ∃ (a : Addr) (ns : List Int), vs = [.ref a] ∧ SqL K H a (ns.map V.int) ∧ ns.length ≤ 63 ∧ ∀ H', Q (.bl true) H'
theorem ok_law (T : Txt K mg) : FO P w K mg base 12 T.a_law T.fd_law ["_law_script"] (spLaw K) := by
  have sc := sc_law
  refine T.F_law.okX sc (fun vs H Q E h => ?_) (fun cdv A outer s H vs Q E hr h => ?_)
  · obtain ⟨a, ns, rfl, _⟩ := h
    rfl
  obtain ⟨a, ns, rfl, hS, hl, q⟩ := h
  refine ⟨_, (pss_cons (ps_set (i := 1) sc.nd rfl (by first | exact Or.inl rfl | exact Or.inr rfl) (pe_op op_uAdd pe_int (pe_op op_mod (pe_callS (ok_cell_at T) (hr.mono (by decide)) (by rfl) T.g__law_cell_at T.k__law_cell_at T.bd__law_cell_at (passAt (takes_of rfl rfl rfl rfl)) (pa_cons (pv 0) (pa_cons pe_int pa_nil))) pe_int)))
      (pss_cons (ps_set (i := 2) sc.nd rfl (by first | exact Or.inl rfl | exact Or.inr rfl) (pe_op op_uAdd pe_int (pe_op op_mod (pe_callS (ok_cell_at T) (hr.mono (by decide)) (by rfl) T.g__law_cell_at T.k__law_cell_at T.bd__law_cell_at (passAt (takes_of rfl rfl rfl rfl)) (pa_cons (pv 0) (pa_cons pe_int pa_nil))) pe_int)))
      (pss_cons (ps_set (i := 3) sc.nd rfl (by first | exact Or.inl rfl | exact Or.inr rfl) (pe_callS (ok_cell_at T) (hr.mono (by decide)) (by rfl) T.g__law_cell_at T.k__law_cell_at T.bd__law_cell_at (passAt (takes_of rfl rfl rfl rfl)) (pa_cons (pv 0) (pa_cons pe_int pa_nil))))
      (pss_cons (ps_set (i := 4) sc.nd rfl (by first | exact Or.inl rfl | exact Or.inr rfl) (pe_mkS T.mk_Chip (ok_Chip_init T) (hr.mono (by decide)) (by rfl) T.g_Chip T.bd2_Chip_init T.dv2_Chip_init (passAt (takes_of rfl rfl rfl rfl)) (pa_cons (pv 1) (pa_cons (pv 2) pa_nil))))
      (pss_cons (ps_expr (pe_callS (ok_lay T) (hr.mono (by decide)) (by rfl) T.g__law_lay T.k__law_lay T.bd__law_lay (passAt (takes_of rfl rfl rfl rfl)) (pa_cons (pv 4) (pa_cons (pv 0) (pa_cons (pv 1) (pa_cons (pv 2) (pa_cons (pv 3) pa_nil)))))))
      (pss_cons (ps_set (i := 5) sc.nd rfl (by first | exact Or.inl rfl | exact Or.inr rfl) (pe_callS (ok_found T) (hr.mono (by decide)) (by rfl) T.g__law_found T.k__law_found T.bd__law_found (passAt (takes_of rfl rfl rfl rfl)) (pa_cons (pv 4) (pa_cons (pe_op op_uMul (pv 1) (pv 2)) pa_nil))))
      (pss_cons (ps_setLc (i := 6) (own := [("_law_sheet", 7)]) (by rfl) sc.nd rfl rfl (sw_true rfl rfl rfl (by decide +kernel)) (pi_list (pe_callB (cr_usorted) (by rfl) T.b_sorted bt_sorted (pa_cons (pv 5) pa_nil))) (blkOk_by (own := [("_law_sheet", 7)]) (N := N_law) (sc := defScope s_law) (by decide +kernel)) (fun _ _ _ _ _ => (pg_name (i := 7) sc.nd rfl (by first | exact Or.inl rfl | exact Or.inr rfl))) (fun _ _ _ _ _ => pts_nil) (fun _ _ _ _ _ => (pe_tup (pa_cons (pv 7) (pa_cons (pe_ix (K_ix (K := K)) (pe_dget (hu_of hr) (pv 5) (pv 7) (fun _ _ => rfl)) pe_int (fun _ _ => rfl)) pa_nil)))))
      (pss_cons (ps_set (i := 8) sc.nd rfl (by first | exact Or.inl rfl | exact Or.inr rfl) (pe_op op_mod (pe_callS (ok_cell_at T) (hr.mono (by decide)) (by rfl) T.g__law_cell_at T.k__law_cell_at T.bd__law_cell_at (passAt (takes_of rfl rfl rfl rfl)) (pa_cons (pv 0) (pa_cons pe_int pa_nil))) (pe_op op_uAdd (pe_callB (cr_ulen) (by rfl) T.b_len bt_len (pa_cons (pv 6) pa_nil)) pe_int)))
      (pss_cons (ps_set (i := 6) sc.nd rfl (by first | exact Or.inl rfl | exact Or.inr rfl) (pe_op op_uAdd (pe_slice sl_u (pv 6) (po_some (pv 8)) po_none) (pe_slice sl_u (pv 6) po_none (po_some (pv 8)))))
      (pss_cons (ps_if (pt_cmpR (op_uNe hr.units) (pe_callS (ok_faults T) (hr.mono (by decide)) (by rfl) T.g_faults T.k_faults T.bd_faults (passAt (takes_of rfl rfl rfl rfl)) (pa_cons (pv 4) (pa_cons (pe_callTy ct_list (by rfl) T.b_list bt_list (pa_cons (pv 6) pa_nil)) pa_nil))) (pe_lst pa_nil) (nomark _)) (pss_one (ps_ret pe_bl)) pss_nil)
      (pss_cons (ps_for (passes_of rfl) rfl (pi_range2 (by rfl) T.b_range (pa_cons pe_int (pa_cons (pe_callB (cr_umin) (by rfl) T.b_min bt_min (pa_cons (pe_callB (cr_ulen) (by rfl) T.b_len bt_len (pa_cons (pv 0) pa_nil)) (pa_cons pe_int pa_nil))) pa_nil))) (pg_name (i := 9) sc.nd rfl (by first | exact Or.inl rfl | exact Or.inr rfl)) (pss_cons (ps_set (i := 6) sc.nd rfl (by first | exact Or.inl rfl | exact Or.inr rfl) (pe_callS (ok_spoiled T) (hr.mono (by decide)) (by rfl) T.g__law_spoiled T.k__law_spoiled T.bd__law_spoiled (passAt (takes_of rfl rfl rfl rfl)) (pa_cons (pv 6) (pa_cons (pe_op op_fdivW (pe_ix ix_seq (pv 0) (pv 9) (fun _ _ => rfl)) pe_int) (pa_cons (pe_op op_uMul (pv 1) (pv 2)) (pa_cons (pv 3) pa_nil))))))
      (pss_cons (ps_set (i := 10) sc.nd rfl (by first | exact Or.inl rfl | exact Or.inr rfl) (pe_callTy ct_list (by rfl) T.b_list bt_list (pa_cons (pv 6) pa_nil)))
      (pss_cons (ps_set (i := 11) sc.nd rfl (by first | exact Or.inl rfl | exact Or.inr rfl) (pe_callS (ok_faults T) (hr.mono (by decide)) (by rfl) T.g_faults T.k_faults T.bd_faults (passAt (takes_of rfl rfl rfl rfl)) (pa_cons (pv 4) (pa_cons (pv 10) pa_nil))))
      (pss_one (ps_if (PW.pt (pw_or (pt_not (pt_truth (pe_callB (cr_uisinstance) (by rfl) T.b_isinstance bt_isinstance (pa_cons (pv 11) (pa_cons (pe_bltn (v := .ty "list") (by rfl) T.b_list bt_list rfl) pa_nil))) (by intro _; rfl))) (pw_or (pt_cmpR (op_uNe hr.units) (pv 11) (pe_callS (ok_due T) (hr.mono (by decide)) (by rfl) T.g__law_due T.k__law_due T.bd__law_due (passAt (takes_of rfl rfl rfl rfl)) (pa_cons (pv 4) (pa_cons (pe_op op_uMul (pv 1) (pv 2)) (pa_cons (pv 5) (pa_cons (pv 6) pa_nil))))) (nomark _)) (pw_or1 (pt_cmpR (op_uNe hr.units) (pv 10) (pv 6) (nomark _)))))) (pss_one (ps_ret pe_bl)) pss_nil))))))
      (pss_one (ps_ret (pe_cmpR (op_uEq hr.units) (pe_callS (ok_faults T) (hr.mono (by decide)) (by rfl) T.g_faults T.k_faults T.bd_faults (passAt (takes_of rfl rfl rfl rfl)) (pa_cons (pv 4) (pa_cons (pe_callTy ct_list (by rfl) T.b_list bt_list (pa_cons (pv 6) pa_nil)) pa_nil))) (pe_callS (ok_due T) (hr.mono (by decide)) (by rfl) T.g__law_due T.k__law_due T.bd__law_due (passAt (takes_of rfl rfl rfl rfl)) (pa_cons (pv 4) (pa_cons (pe_op op_uMul (pv 1) (pv 2)) (pa_cons (pv 5) (pa_cons (pv 6) pa_nil))))) (nomark _))))))))))))))), ?_⟩
  walk_at "begin"
  walk_at "go"
  have hB : 2 ≤ 4 + cl ns 0 % 4 ∧ 4 + cl ns 0 % 4 ≤ 16 := by omega
  have hP : 1 ≤ 1 + cl ns 1 % 4 ∧ 1 + cl ns 1 % 4 ≤ 16 := by omega
  have hB4 : 4 ≤ 4 + cl ns 0 % 4 ∧ 4 + cl ns 0 % 4 ≤ 7 := by omega
  have hP4 : 1 ≤ 1 + cl ns 1 % 4 ∧ 1 + cl ns 1 % 4 ≤ 4 := by omega
  rename_i x dx Hm hx hdx hne hsm hnm hdd
  generalize 4 + cl ns 0 % 4 = b at hB hB4 ⊢
  generalize 1 + cl ns 1 % 4 = p at hP hP4 ⊢
  refine x_cinit hB hP hx hsm hnm fun F H3 hs3 hF hC => ⟨rfl, ?_⟩
  clear hsm hnm hdd hne hdx
  have hC3 := chipP_new hC
  walk_at "go"
  refine ⟨x, F, a, ns, b, p, _, _, rfl, ⟨H, hs3, hS, hF⟩, hl, hC3, Laid.new hB hP, fun rows q5 H5 hH5 => ?_⟩
  obtain ⟨hO5, hC5, hL5, hlen5, hst5⟩ := hH5
  have s05 : Same H H5 := Off.same hs3 hO5 hF
  clear hO5 hC hC3 hs3
  have hbp : b * p ≤ 7 * 4 := Int.mul_le_mul hB4.2 hP4.2 (by omega) (by decide)
  have hbp1 : 4 * 1 ≤ b * p := Int.mul_le_mul hB4.1 hP4.1 (by decide) (by omega)
  have hfew := hL5.few
  obtain ⟨hwf, hrb0, hrl⟩ := hL5.hb.real
  have hkb := hL5.hb.rbS (pp := []) (R := .by fun _ _ _ _ => false)
  have hstp : (realB q5.ct (kAll b p rows)).stamp = (kAll b p rows).stamp := drops_stR
  have hst39 : (realB q5.ct (kAll b p rows)).stamp < 10 ^ 39 := by omega
  have hrw : (rowsC q5.ct).length < 64 := by omega
  have hdk : q5.dark = false := hL5.hb.fn.dark
  have hqb := hL5.qb
  have hqp := hL5.qp
  generalize realB q5.ct (kAll b p rows) = k at hwf hrb0 hrl hkb hstp hst39
  have hok := rb_ok (s := ⟨q5, k, [], .by fun _ _ _ _ => false⟩) hwf hkb hst39 hrw
  have hm : ∀ i e, q5.ct.getD i none = some e → 0 ≤ e.1 ∧ e.1 % 128 ≤ 64 := fun i e he => by
    have h1 := hok.1.rng i e he
    have h2 := hrb0.rng i (by unfold wrC; rw [he]; exact fun z => by cases z)
    unfold nmC at h2
    rw [he] at h2
    exact ⟨h1.1, h2.2.2.1⟩
  have esz : b * p = q5.b * q5.p := by rw [hqb, hqp]
  walk_at "go"
  rw [esz]
  refine ⟨x, F, q5, k, rfl, hC5, hok.1, hwf, hrb0, hrl, hdk, fun d H6 hs6 hd6 hD6 => ?_⟩
  walk_at "go"
  obtain ⟨zs, kv, ps, k1, k2, hks, hhl, hkvl, hget⟩ := hD6.keys hwf
  refine x_sortD k1 hks (by rw [List.length_map]; omega) fun pk H7 hpk hs7 hn7 => ?_
  rw [hhl] at hn7
  have k1' := hs7 _ _ k1
  have hget' : ∀ n ∈ heldL k, ∃ (t : Addr) (pg : Int), valV (kvF (fZ zs) kv) (.inl n) = some (.ref t) ∧ getI k.wh n = some pg ∧ H7 t = some (.tup [.int pg, .int (vlC q5.ct pg.toNat)]) := fun n hn => by
    obtain ⟨t, pg, x1, x2, x3⟩ := hget n hn
    exact ⟨t, pg, x1, x2, hs7 _ _ x3⟩
  have hhll : (heldL k).length ≤ 63 := by rw [← hhl, (sortZ_perm _).length_eq, List.length_map]; exact hkvl
  have s07 := (s05.trans hs6).trans hs7
  have s57 := hs6.trans hs7
  have hD7 := hD6.mono hs7
  clear hs6 hs7 k1 hget hD6 k2 hks hhl
  refine x_lcLK (SqL.of hn7) (fun i acc H' => PairL H' acc (((heldL k).take i).map fun n => (n, (getI k.wh n).getD 0))) (fun i acc H H' (s : TupS H H') (h : PairL H acc _) => h.mono s) (Nat.lt_of_le_of_lt (show _ ≤ 1000 by rw [List.length_map]; omega) (by decide)) PairL.nil ?_ ?_
  · intro i y acc H8 hy hs8 ha NY NN hY hN'
    obtain ⟨n, hn, rfl⟩ : ∃ n, (heldL k)[i]? = some n ∧ y = .int n := by
      rw [List.getElem?_map] at hy
      cases e : (heldL k)[i]? with
      | none => rw [e] at hy; cases hy
      | some n => rw [e] at hy; cases hy; exact ⟨n, rfl, rfl⟩
    obtain ⟨t, pg, hvd, hpg, ht⟩ := hget' n (List.mem_of_getElem? hn)
    have k8 := hs8 _ _ k1'
    have ht8 := hs8 _ _ ht
    dsimp only [wipe]
    walk_at "go"
    refine ⟨rfl, ?_⟩
    walk_at "go"
    refine x_dgI k8 hvd ?_
    walk_at "go"
    rename_i t9 H9 ht9 hs9 hn9
    refine hY _ _ hs9 ?_
    show PairL H9 (acc ++ [_]) (((heldL k).take (i + 1)).map fun n => (n, (getI k.wh n).getD 0))
    rw [List.take_add_one, hn, List.map_append]
    refine (ha.mono (TupS.of hs9)).snoc ⟨t9, rfl, ?_⟩
    rw [hn9]
    show some (HO.tup [V.int n, V.int pg]) = some (HO.tup [V.int n, V.int ((getI k.wh n).getD 0)])
    rw [hpg]
    rfl
  intro pd acc H8 hpd hs8 hn8 ha
  rw [List.length_map, List.take_length] at ha
  have s08 := s07.trans hs8
  have s58 := s57.trans hs8
  have hD8 := hD7.mono hs8
  have hal := ha.1
  rw [List.length_map] at hal
  clear hs8 hget' hn7 k1' hD7 s07 s57
  have hS8 := s08.seq hS
  have htn : 0 ≤ cl ns 3 % ((acc.length : Int) + 1) ∧ cl ns 3 % ((acc.length : Int) + 1) < (acc.length : Int) + 1 := ⟨Int.emod_nonneg _ (by omega), Int.emod_lt_of_pos _ (by omega)⟩
  have hmd : 0 < (acc.length : Int) + 1 := by omega
  have lim : ∀ n : Nat, n ≤ 1000 → n ≤ sizeLine := fun n h => line_len h
  have cl1 := cutV_length acc (some (cl ns 3 % ((acc.length : Int) + 1))) none
  have cl2 := cutV_length acc none (some (cl ns 3 % ((acc.length : Int) + 1)))
  walk_at "go"
  case hs => exact lim _ (by omega)
  rename_i p1 G1 hp1 g1 n1 p2 G2 hp2 g2 n2 p6 H9 hp6 hs9 hn9
  obtain ⟨m, em⟩ : ∃ m : Nat, cl ns 3 % ((acc.length : Int) + 1) = (m : Int) := Int.eq_ofNat_of_zero_le htn.1
  rw [em, cutV_from, cutV_to] at hn9
  have s89 := (g1.trans g2).trans hs9
  have hT9 : PairL H9 (acc.drop m ++ acc.take m) ((((heldL k).map fun n => (n, (getI k.wh n).getD 0)).drop m) ++ (((heldL k).map fun n => (n, (getI k.wh n).getD 0)).take m)) := by
    have h0 := ha.mono (TupS.of s89)
    have h1 := PairL.of_mem (ys := acc.drop m ++ acc.take m) h0 (fun y hy => by
      rcases List.mem_append.mp hy with hy | hy
      · exact List.mem_of_mem_drop hy
      · exact List.mem_of_mem_take hy)
    rw [List.map_append, List.map_drop, List.map_take, h0.map] at h1
    exact h1
  have s59 := s58.trans s89
  have s09 := s08.trans s89
  have hD9 := hD8.mono s89
  clear g1 g2 hs9 n1 n2 s89 s58 s08 hD8 ha hn8 hS8 htn em cl1 cl2
  generalize hl0 : ((heldL k).map fun n => (n, (getI k.wh n).getD 0)) = l0 at hT9
  have hl0l : l0.length = (heldL k).length := by rw [← hl0, List.length_map]
  have hperm : (l0.drop m ++ l0.take m).Perm l0 := by
    have := List.perm_append_comm (l₁ := l0.drop m) (l₂ := l0.take m)
    rwa [List.take_append_drop] at this
  have hl0m : l0.map (·.1) = heldL k := by
    rw [← hl0, List.map_map]
    exact (List.map_congr_left fun n _ => rfl).trans (List.map_id _)
  have hnodup : (heldL k).Nodup := (sortZ_perm _).nodup_iff.mpr (List.Nodup.sublist List.filter_sublist hwf.keys)
  have hsound : faultsQ q5 k (l0.drop m ++ l0.take m) = [] := by
    unfold faultsQ
    have hpm := hperm.map (·.1)
    rw [hl0m] at hpm
    rw [flt1_nil hwf hrb0 (hpm.nodup_iff.mpr hnodup) (fun e he => ⟨?_, fun z => by cases z⟩), fltM_nil (fun n hn => hpm.mem_iff.mpr hn)]
    · rfl
    · have := hperm.mem_iff.mp he
      rw [← hl0] at this
      obtain ⟨n, hn, rfl⟩ := List.mem_map.mp this
      obtain ⟨⟨pg, hp⟩, _⟩ := heldL_mem.mp hn
      show getI k.wh n = some ((getI k.wh n).getD 0)
      rw [getI_of_mem hwf.keys hp]
      rfl
  have hrng : ∀ e ∈ (l0.drop m ++ l0.take m), 0 ≤ e.1 ∧ e.1 ≤ 63 := fun e he => by
    have h1 : e.1 ∈ heldL k := by rw [← hl0m]; exact List.mem_map_of_mem (hperm.mem_iff.mp he)
    obtain ⟨⟨pg, hp⟩, h2⟩ := heldL_mem.mp h1
    have := hwf.rng _ hp
    dsimp only at this
    omega
  have hll : (l0.drop m ++ l0.take m).length ≤ 63 := by rw [hperm.length_eq]; omega
  generalize l0.drop m ++ l0.take m = l9 at hT9 hsound hrng hll
  generalize acc.drop m ++ acc.take m = xs9 at hn9 hT9
  walk_at "if"
  rename_i p10 H10 hp10 hs10 hn10
  refine x_faultsK (hC5.mono (s59.trans hs10)) hwf hkb hst39 hrw hdk hn10 (hT9.mono (TupS.of hs10)) (by omega) fun pf vs' H11 hs11 hpf hnf hFf => ?_
  rw [hsound] at hFf
  walk_at "go"
  rename_i pe H12 hpe hs12 hne12
  have hs912 := (hs10.trans hs11).trans hs12
  refine x_neS2 (d := fltD []) ((hFf.mono (TupS.of hs12)).dp (hs12 _ _ hnf)) (FltL.dp (FltL.nil (H := H12)) hne12) (fltD_sh fun e h => by cases h) ?_
  walk_at "go"
  have hn12 := hs912 _ _ hn9
  have hT12 := hT9.mono (TupS.of hs912)
  have s012 := s09.trans hs912
  have s512 := s59.trans hs912
  have hD12 := hD9.mono hs912
  have hC12 := hC5.mono s512
  have hS12 := s012.seq hS
  clear hs10 hs11 hs12 hs912 hn9 hT9 s09 s59 hD9 hn10 hnf hne12 hFf hsound hperm hl0m hl0l hl0 hnodup hal s05
  have hl2 : (if (12 : Int) < ((ns.length : Nat) : Int) then (12 : Int) else (ns.length : Int)) ≤ 12 ∧ (if (12 : Int) < ((ns.length : Nat) : Int) then (12 : Int) else (ns.length : Int)) ≤ ns.length ∧ 0 ≤ (if (12 : Int) < ((ns.length : Nat) : Int) then (12 : Int) else (ns.length : Int)) := by split <;> omega
  refine x_seq ?_
  walk_at "go"
  generalize (if (12 : Int) < ((ns.length : Nat) : Int) then (12 : Int) else (ns.length : Int)) = L at hl2 ⊢
  generalize cl ns 3 % ((acc.length : Int) + 1) = tn
  refine x_frR2 (by omega) (fun i σ H' => ∃ (v9 v10 v11 : Option V) (pt : Addr) (xs : List V) (l : List (Int × Int)), σ = [some (.ref a), some (.int b), some (.int p), some (.int (cl ns 2)), some (.ref x), some (.ref d), some (.ref pt), none, some (.int tn), v9, v10, v11] ∧ Same H12 H' ∧ H' pt = some (.lst xs) ∧ PairL H' xs l ∧ (∀ e ∈ l, 0 ≤ e.1 ∧ e.1 ≤ 63) ∧ l.length ≤ 63 + i)
    ⟨_, _, _, p6, xs9, l9, rfl, fun _ _ h => h, hn12, hT12, hrng, by omega⟩ ?_ ?_
  · intro i σ H13 hi ⟨v9, v10, v11, pt, xs, l, hσ, hs13, hn13, hT13, hr13, hl13⟩
    subst hσ
    have hS13 := hs13.seq hS12
    have hC13 := hC12.mono hs13
    have hD13 := hD12.mono hs13
    have hk' : 0 ≤ 4 + (i : Int) ∧ 4 + (i : Int) < ns.length := by omega
    walk_at "go"
    generalize ns.getD (4 + (i : Int)).toNat 0 = w0
    refine ⟨pt, xs, l, _, _, _, rfl, hn13, hT13, hr13, by omega, by omega, fun pt2 xs2 l2 H14 hs14 hpt2 hn14 hT14 hr14 hl14 => ?_⟩
    walk_at "go"
    rename_i ph H15 hph hs15 hn15
    have hT15 := hT14.mono (TupS.of hs15)
    have hn14' := hs15 _ _ hn14
    refine x_faultsK (hC13.mono (hs14.trans hs15)) hwf hkb hst39 hrw hdk hn15 hT15 (by omega) fun pf vs2 H16 hs16 hpf hnf hFf => ?_
    have hn15' := hs16 _ _ hn15
    have hn14'' := hs16 _ _ hn14'
    have hT16 := hT15.mono (TupS.of hs16)
    have s1316 := (hs14.trans hs15).trans hs16
    clear hs14 hs15 hs16 hn14 hn14' hn15 hT14 hT15
    walk_at "go"
    rw [esz]
    refine ⟨x, d, pt2, F, q5, k, xs2, l2, rfl, hC13.mono s1316, hD13.mono s1316, hwf, hm, hdk, hn14'', hT16, by omega, hr14, fun pz ys H17 hs17 hpz hnz hFz => ?_⟩
    refine x_neS2 (d := fltD (faultsQ q5 k l2)) ((hFf.mono (TupS.of hs17)).dp (hs17 _ _ hnf)) (hFz.dp hnz) (fltD_sh faultsQ_w) ?_
    have hT17 := hT16.mono (TupS.of hs17)
    have hn15x := hs17 _ _ hn15'
    have hn14x := hs17 _ _ hn14''
    walk_at "go"
    refine x_neS2 (hT17.dp hn15x) (hT17.dp hn14x) (prsSh (k := 7)) ?_
    walk_at "go"
    exact ⟨_, _, _, pt2, xs2, l2, rfl, (hs13.trans s1316).trans hs17, hn14x, hT17, hr14, by omega⟩
  · intro σ H13 ⟨v9, v10, v11, pt, xs, l, hσ, hs13, hn13, hT13, hr13, hl13⟩
    subst hσ
    have hC13 := hC12.mono hs13
    have hD13 := hD12.mono hs13
    walk_at "go"
    rename_i p10 H14 hp10 hs14 hn14
    refine x_faultsK (hC13.mono hs14) hwf hkb hst39 hrw hdk hn14 (hT13.mono (TupS.of hs14)) (by omega) fun pf vs2 H15 hs15 hpf hnf hFf => ?_
    walk_at "go"
    rw [esz]
    have s1315 := hs14.trans hs15
    refine ⟨x, d, pt, F, q5, k, xs, l, rfl, hC13.mono s1315, hD13.mono s1315, hwf, hm, hdk, s1315 _ _ hn13, hT13.mono (TupS.of s1315), by omega, hr13, fun pz ys H16 hs16 hpz hnz hFz => ?_⟩
    walk_at "go"
    refine x_eqS2 (d := fltD (faultsQ q5 k l)) ((hFf.mono (TupS.of hs16)).dp (hs16 _ _ hnf)) (hFz.dp hnz) (fltD_sh faultsQ_w) ?_
    walk_at "go"
    exact q _
end
theorem txt_of {l : PySem.W.OpenLaw} {w : World} {K : PySem.W.Frag} {h : Heap} {mg : Str → Option Value} {fa : Addr} {A : List Addr} (X : K.In h) (G : h.Ns mainGlobals mg) (hfa : mg "law" = some (.ref fa)) (c : SaysK fsK fnK K A) :
    ∃ fd : FuncData, (∀ (s : Shared) (v : Value), BindsTo s fd ⟨[v], []⟩ [("_law_script", v)]) ∧ ∀ base : Heap, K.In base → base.Ns mainGlobals mg → FnOk l.prog w K mg base (L2.CX l.prog w) 12 fa fd ["_law_script"] (spLaw K) := by
  have hh := c.facts
  unfold fsK at hh
  obtain ⟨hc0, hh⟩ := He.ba hh
  obtain ⟨a_mark_of, a_stamp_of, a_name_of, a_sheets_of, a_is_whole, a_is_within, a_rows_by_stamp, a_stamp_of_roll, a_book_of, a_fault, a_faults, a_endurance, a__law_cell_at, a__law_mix, a__law_newest, a__law_found, a__law_name, a__law_bits, a__law_lay, a__law_page, a__law_spoiled, a__law_sort, a__law_due, a_law, aC_Book⟩ := fsK0_ok hc0
  obtain ⟨hc1, hh⟩ := He.ba hh
  obtain ⟨pg_Book, hd_Book, po_Book, sa_Book, na_Book_blocks, na_Book_pages, na_Book_where, na_Book_names, na_Book_live, na_Book_filled, na_Book_born, na_Book_stamp, at_Book_init, fn_Book_init, mi_Book, kc_Book, at_Book_start_at, fn_Book_start_at, at_Book_mark, fn_Book_mark, at_Book_note, fn_Book_note, at_Book_forget, fn_Book_forget, at_Book_held⟩ := fsK1_ok hc1
  obtain ⟨hc2, hh⟩ := He.ba hh
  obtain ⟨fn_Book_held, at_Book_tell, fn_Book_tell, aC_Chip, pg_Chip, hd_Chip, po_Chip, sa_Chip, na_Chip_blocks, na_Chip_pages, na_Chip_most, na_Chip_lasts, na_Chip_stuff, na_Chip_tried, na_Chip_clearings, na_Chip_broken, na_Chip_left, na_Chip_log, at_Chip_init, fn_Chip_init, mi_Chip, kc_Chip, at_Chip_need_page, fn_Chip_need_page, at_Chip_need_block⟩ := fsK2_ok hc2
  obtain ⟨hc3, hh⟩ := He.ba hh
  obtain ⟨fn_Chip_need_block, at_Chip_need_power, fn_Chip_need_power, at_Chip_need_good, fn_Chip_need_good, at_Chip_goes_well, fn_Chip_goes_well, at_Chip_put, fn_Chip_put, at_Chip_read, fn_Chip_read, at_Chip_is_dark, fn_Chip_is_dark, at_Chip_failed, fn_Chip_failed, at_Chip_deeds, fn_Chip_deeds, aC_WornError, xq_WornError, xk_WornError, xr_WornError, xt_WornError, aC_NoChip, xq_NoChip, xk_NoChip⟩ := fsK3_ok hc3
  obtain ⟨hc4, hh⟩ := He.ba hh
  obtain ⟨xr_NoChip, xt_NoChip, aC_NoPlace, xq_NoPlace, xk_NoPlace, xr_NoPlace, xt_NoPlace, aC_PowerGone, xq_PowerGone, xk_PowerGone, xr_PowerGone, xt_PowerGone, aC_BlockFailed, xl_BlockFailed, xs_BlockFailed, xr_BlockFailed, xy_BlockFailed, xk_BlockFailed, xi_BlockFailed, xt_BlockFailed, xf_BlockFailed, nx_BlockFailed_block, aC_NotClear, xl_NotClear, xs_NotClear⟩ := fsK4_ok hc4
  obtain ⟨hc5, hh⟩ := He.ba hh
  obtain ⟨xr_NotClear, xy_NotClear, xk_NotClear, xi_NotClear, xt_NotClear, xf_NotClear, nx_NotClear_page, wa_WornError, wr_WornError, wf_WornError, z_len, z_isinstance, z_min, z_sorted, z_int, z_str, z_list, z_bool, z_range, z_ValueError, v_ROLL, vr_ROLL, v_MANY, vr_MANY, v_MOST⟩ := fsK5_ok hc5
  have vr_MOST := fsK6_ok hh
  have e := hfa.symm.trans (PySem.W.mg_of X G a_law)
  cases e
  obtain ⟨fd_mark_of, D_mark_of⟩ := c.def_ 0 (d := ⟨18, "mark_of", "mark_of", defArgs s_mark_of, defBody s_mark_of, defScope s_mark_of, []⟩) rfl
  have k_mark_of : PySem.W.keepIn K (.ref (A.getD 18 0)) = true := D_mark_of.kp
  have F_mark_of : Fun K "mark_of" "mark_of" s_mark_of (A.getD 18 0) fd_mark_of := funK_of D_mark_of
  have b_mark_of := F_mark_of.binds (ps := ["stamp", "name"]) fun _ _ _ _ _ _ us hl => match us, hl with | [_, _], _ => rfl
  obtain ⟨fd_stamp_of, D_stamp_of⟩ := c.def_ 1 (d := ⟨19, "stamp_of", "stamp_of", defArgs s_stamp_of, defBody s_stamp_of, defScope s_stamp_of, []⟩) rfl
  have k_stamp_of : PySem.W.keepIn K (.ref (A.getD 19 0)) = true := D_stamp_of.kp
  have F_stamp_of : Fun K "stamp_of" "stamp_of" s_stamp_of (A.getD 19 0) fd_stamp_of := funK_of D_stamp_of
  have b_stamp_of := F_stamp_of.binds (ps := ["mark"]) fun _ _ _ _ _ _ us hl => match us, hl with | [_], _ => rfl
  obtain ⟨fd_name_of, D_name_of⟩ := c.def_ 2 (d := ⟨20, "name_of", "name_of", defArgs s_name_of, defBody s_name_of, defScope s_name_of, []⟩) rfl
  have k_name_of : PySem.W.keepIn K (.ref (A.getD 20 0)) = true := D_name_of.kp
  have F_name_of : Fun K "name_of" "name_of" s_name_of (A.getD 20 0) fd_name_of := funK_of D_name_of
  have b_name_of := F_name_of.binds (ps := ["mark"]) fun _ _ _ _ _ _ us hl => match us, hl with | [_], _ => rfl
  obtain ⟨fd_sheets_of, D_sheets_of⟩ := c.def_ 3 (d := ⟨21, "sheets_of", "sheets_of", defArgs s_sheets_of, defBody s_sheets_of, defScope s_sheets_of, []⟩) rfl
  have k_sheets_of : PySem.W.keepIn K (.ref (A.getD 21 0)) = true := D_sheets_of.kp
  have F_sheets_of : Fun K "sheets_of" "sheets_of" s_sheets_of (A.getD 21 0) fd_sheets_of := funK_of D_sheets_of
  have b_sheets_of := F_sheets_of.binds (ps := ["bits"]) fun _ _ _ _ _ _ us hl => match us, hl with | [_], _ => rfl
  obtain ⟨fd_Book_init, D_Book_init⟩ := c.def_ 4 (d := ⟨22, "__init__", "Book.__init__", defArgs s_Book_init, defBody s_Book_init, defScope s_Book_init, []⟩) rfl
  have k_Book_init : PySem.W.keepIn K (.ref (A.getD 22 0)) = true := D_Book_init.kp
  have F_Book_init : Fun K "__init__" "Book.__init__" s_Book_init (A.getD 22 0) fd_Book_init := funK_of D_Book_init
  have b_Book_init := F_Book_init.binds (ps := ["self", "blocks", "pages"]) fun _ _ _ _ _ _ us hl => match us, hl with | [_, _, _], _ => rfl
  obtain ⟨fd_Book_start_at, D_Book_start_at⟩ := c.def_ 5 (d := ⟨23, "start_at", "Book.start_at", defArgs s_Book_start_at, defBody s_Book_start_at, defScope s_Book_start_at, []⟩) rfl
  have k_Book_start_at : PySem.W.keepIn K (.ref (A.getD 23 0)) = true := D_Book_start_at.kp
  have F_Book_start_at : Fun K "start_at" "Book.start_at" s_Book_start_at (A.getD 23 0) fd_Book_start_at := funK_of D_Book_start_at
  have b_Book_start_at := F_Book_start_at.binds (ps := ["self", "stamp"]) fun _ _ _ _ _ _ us hl => match us, hl with | [_, _], _ => rfl
  obtain ⟨fd_Book_mark, D_Book_mark⟩ := c.def_ 6 (d := ⟨24, "mark", "Book.mark", defArgs s_Book_mark, defBody s_Book_mark, defScope s_Book_mark, []⟩) rfl
  have k_Book_mark : PySem.W.keepIn K (.ref (A.getD 24 0)) = true := D_Book_mark.kp
  have F_Book_mark : Fun K "mark" "Book.mark" s_Book_mark (A.getD 24 0) fd_Book_mark := funK_of D_Book_mark
  have b_Book_mark := F_Book_mark.binds (ps := ["self", "name"]) fun _ _ _ _ _ _ us hl => match us, hl with | [_, _], _ => rfl
  obtain ⟨fd_Book_note, D_Book_note⟩ := c.def_ 7 (d := ⟨25, "note", "Book.note", defArgs s_Book_note, defBody s_Book_note, defScope s_Book_note, []⟩) rfl
  have k_Book_note : PySem.W.keepIn K (.ref (A.getD 25 0)) = true := D_Book_note.kp
  have F_Book_note : Fun K "note" "Book.note" s_Book_note (A.getD 25 0) fd_Book_note := funK_of D_Book_note
  have b_Book_note := F_Book_note.binds (ps := ["self", "page", "name"]) fun _ _ _ _ _ _ us hl => match us, hl with | [_, _, _], _ => rfl
  obtain ⟨fd_Book_forget, D_Book_forget⟩ := c.def_ 8 (d := ⟨26, "forget", "Book.forget", defArgs s_Book_forget, defBody s_Book_forget, defScope s_Book_forget, []⟩) rfl
  have k_Book_forget : PySem.W.keepIn K (.ref (A.getD 26 0)) = true := D_Book_forget.kp
  have F_Book_forget : Fun K "forget" "Book.forget" s_Book_forget (A.getD 26 0) fd_Book_forget := funK_of D_Book_forget
  have b_Book_forget := F_Book_forget.binds (ps := ["self", "name"]) fun _ _ _ _ _ _ us hl => match us, hl with | [_, _], _ => rfl
  obtain ⟨fd_Book_held, D_Book_held⟩ := c.def_ 9 (d := ⟨27, "held", "Book.held", defArgs s_Book_held, defBody s_Book_held, defScope s_Book_held, []⟩) rfl
  have k_Book_held : PySem.W.keepIn K (.ref (A.getD 27 0)) = true := D_Book_held.kp
  have F_Book_held : Fun K "held" "Book.held" s_Book_held (A.getD 27 0) fd_Book_held := funK_of D_Book_held
  have b_Book_held := F_Book_held.binds (ps := ["self"]) fun _ _ _ _ _ _ us hl => match us, hl with | [_], _ => rfl
  obtain ⟨fd_Book_tell, D_Book_tell⟩ := c.def_ 10 (d := ⟨28, "tell", "Book.tell", defArgs s_Book_tell, defBody s_Book_tell, defScope s_Book_tell, []⟩) rfl
  have k_Book_tell : PySem.W.keepIn K (.ref (A.getD 28 0)) = true := D_Book_tell.kp
  have F_Book_tell : Fun K "tell" "Book.tell" s_Book_tell (A.getD 28 0) fd_Book_tell := funK_of D_Book_tell
  have b_Book_tell := F_Book_tell.binds (ps := ["self"]) fun _ _ _ _ _ _ us hl => match us, hl with | [_], _ => rfl
  obtain ⟨fd_BlockFailed_init, D_BlockFailed_init⟩ := c.def_ 11 (d := ⟨29, "__init__", "BlockFailed.__init__", defArgs s_BlockFailed_init, defBody s_BlockFailed_init, defScope s_BlockFailed_init, []⟩) rfl
  have k_BlockFailed_init : PySem.W.keepIn K (.ref (A.getD 29 0)) = true := D_BlockFailed_init.kp
  have F_BlockFailed_init : Fun K "__init__" "BlockFailed.__init__" s_BlockFailed_init (A.getD 29 0) fd_BlockFailed_init := funK_of D_BlockFailed_init
  have b_BlockFailed_init := F_BlockFailed_init.binds (ps := ["self", "block"]) fun _ _ _ _ _ _ us hl => match us, hl with | [_, _], _ => rfl
  obtain ⟨fd_NotClear_init, D_NotClear_init⟩ := c.def_ 12 (d := ⟨30, "__init__", "NotClear.__init__", defArgs s_NotClear_init, defBody s_NotClear_init, defScope s_NotClear_init, []⟩) rfl
  have k_NotClear_init : PySem.W.keepIn K (.ref (A.getD 30 0)) = true := D_NotClear_init.kp
  have F_NotClear_init : Fun K "__init__" "NotClear.__init__" s_NotClear_init (A.getD 30 0) fd_NotClear_init := funK_of D_NotClear_init
  have b_NotClear_init := F_NotClear_init.binds (ps := ["self", "page"]) fun _ _ _ _ _ _ us hl => match us, hl with | [_, _], _ => rfl
  obtain ⟨fd_is_whole, D_is_whole⟩ := c.def_ 13 (d := ⟨31, "is_whole", "is_whole", defArgs s_is_whole, defBody s_is_whole, defScope s_is_whole, []⟩) rfl
  have k_is_whole : PySem.W.keepIn K (.ref (A.getD 31 0)) = true := D_is_whole.kp
  have F_is_whole : Fun K "is_whole" "is_whole" s_is_whole (A.getD 31 0) fd_is_whole := funK_of D_is_whole
  have b_is_whole := F_is_whole.binds (ps := ["thing"]) fun _ _ _ _ _ _ us hl => match us, hl with | [_], _ => rfl
  obtain ⟨fd_is_within, D_is_within⟩ := c.def_ 14 (d := ⟨32, "is_within", "is_within", defArgs s_is_within, defBody s_is_within, defScope s_is_within, []⟩) rfl
  have k_is_within : PySem.W.keepIn K (.ref (A.getD 32 0)) = true := D_is_within.kp
  have F_is_within : Fun K "is_within" "is_within" s_is_within (A.getD 32 0) fd_is_within := funK_of D_is_within
  have b_is_within := F_is_within.binds (ps := ["thing", "low", "high"]) fun _ _ _ _ _ _ us hl => match us, hl with | [_, _, _], _ => rfl
  obtain ⟨fd_rows_by_stamp, D_rows_by_stamp⟩ := c.def_ 15 (d := ⟨33, "rows_by_stamp", "rows_by_stamp", defArgs s_rows_by_stamp, defBody s_rows_by_stamp, defScope s_rows_by_stamp, []⟩) rfl
  have k_rows_by_stamp : PySem.W.keepIn K (.ref (A.getD 33 0)) = true := D_rows_by_stamp.kp
  have F_rows_by_stamp : Fun K "rows_by_stamp" "rows_by_stamp" s_rows_by_stamp (A.getD 33 0) fd_rows_by_stamp := funK_of D_rows_by_stamp
  have b_rows_by_stamp := F_rows_by_stamp.binds (ps := ["chip"]) fun _ _ _ _ _ _ us hl => match us, hl with | [_], _ => rfl
  obtain ⟨fd_stamp_of_roll, D_stamp_of_roll⟩ := c.def_ 16 (d := ⟨34, "stamp_of_roll", "stamp_of_roll", defArgs s_stamp_of_roll, defBody s_stamp_of_roll, defScope s_stamp_of_roll, []⟩) rfl
  have k_stamp_of_roll : PySem.W.keepIn K (.ref (A.getD 34 0)) = true := D_stamp_of_roll.kp
  have F_stamp_of_roll : Fun K "stamp_of_roll" "stamp_of_roll" s_stamp_of_roll (A.getD 34 0) fd_stamp_of_roll := funK_of D_stamp_of_roll
  have b_stamp_of_roll := F_stamp_of_roll.binds (ps := ["rows"]) fun _ _ _ _ _ _ us hl => match us, hl with | [_], _ => rfl
  obtain ⟨fd_book_of, D_book_of⟩ := c.def_ 17 (d := ⟨35, "book_of", "book_of", defArgs s_book_of, defBody s_book_of, defScope s_book_of, []⟩) rfl
  have k_book_of : PySem.W.keepIn K (.ref (A.getD 35 0)) = true := D_book_of.kp
  have F_book_of : Fun K "book_of" "book_of" s_book_of (A.getD 35 0) fd_book_of := funK_of D_book_of
  have b_book_of := F_book_of.binds (ps := ["chip"]) fun _ _ _ _ _ _ us hl => match us, hl with | [_], _ => rfl
  obtain ⟨fd_fault, D_fault⟩ := c.def_ 18 (d := ⟨36, "fault", "fault", defArgs s_fault, defBody s_fault, defScope s_fault, []⟩) rfl
  have k_fault : PySem.W.keepIn K (.ref (A.getD 36 0)) = true := D_fault.kp
  have F_fault : Fun K "fault" "fault" s_fault (A.getD 36 0) fd_fault := funK_of D_fault
  have b_fault := F_fault.binds (ps := ["chip", "book", "sheet", "page"]) fun _ _ _ _ _ _ us hl => match us, hl with | [_, _, _, _], _ => rfl
  obtain ⟨fd_faults, D_faults⟩ := c.def_ 19 (d := ⟨37, "faults", "faults", defArgs s_faults, defBody s_faults, defScope s_faults, []⟩) rfl
  have k_faults : PySem.W.keepIn K (.ref (A.getD 37 0)) = true := D_faults.kp
  have F_faults : Fun K "faults" "faults" s_faults (A.getD 37 0) fd_faults := funK_of D_faults
  have b_faults := F_faults.binds (ps := ["chip", "told"]) fun _ _ _ _ _ _ us hl => match us, hl with | [_, _], _ => rfl
  obtain ⟨fd_endurance, D_endurance⟩ := c.def_ 20 (d := ⟨38, "endurance", "endurance", defArgs s_endurance, defBody s_endurance, defScope s_endurance, []⟩) rfl
  have k_endurance : PySem.W.keepIn K (.ref (A.getD 38 0)) = true := D_endurance.kp
  have F_endurance : Fun K "endurance" "endurance" s_endurance (A.getD 38 0) fd_endurance := funK_of D_endurance
  have b_endurance := F_endurance.binds (ps := ["blocks", "ills"]) fun _ _ _ _ _ _ us hl => match us, hl with | [_, _], _ => rfl
  obtain ⟨fd_Chip_init, D_Chip_init⟩ := c.def_ 21 (d := ⟨39, "__init__", "Chip.__init__", defArgs s_Chip_init, defBody s_Chip_init, defScope s_Chip_init, [.int (1000000), .non]⟩) rfl
  have k_Chip_init : PySem.W.keepIn K (.ref (A.getD 39 0)) = true := D_Chip_init.kp
  have F_Chip_init : FunD K "__init__" "Chip.__init__" (defArgs s_Chip_init) (defBody s_Chip_init) (defScope s_Chip_init) dfl_Chip_init [] (A.getD 39 0) fd_Chip_init := D_Chip_init
  obtain ⟨ds2_Chip_init, dv2_Chip_init, bd2_Chip_init⟩ := F_Chip_init.binds1 (ps := ["self", "blocks", "pages", "most", "ills"]) 3 0 (fun z => by cases z) (by rfl) fun T kV doc pm an cdv ct us its h1 h2 => match us, its, h1, h2 with | [_, _, _], [_, _], _, _ => ⟨_, rfl, rfl⟩
  obtain ⟨fd_Chip_need_page, D_Chip_need_page⟩ := c.def_ 22 (d := ⟨40, "need_page", "Chip.need_page", defArgs s_Chip_need_page, defBody s_Chip_need_page, defScope s_Chip_need_page, []⟩) rfl
  have k_Chip_need_page : PySem.W.keepIn K (.ref (A.getD 40 0)) = true := D_Chip_need_page.kp
  have F_Chip_need_page : Fun K "need_page" "Chip.need_page" s_Chip_need_page (A.getD 40 0) fd_Chip_need_page := funK_of D_Chip_need_page
  have b_Chip_need_page := F_Chip_need_page.binds (ps := ["self", "page"]) fun _ _ _ _ _ _ us hl => match us, hl with | [_, _], _ => rfl
  obtain ⟨fd_Chip_need_block, D_Chip_need_block⟩ := c.def_ 23 (d := ⟨41, "need_block", "Chip.need_block", defArgs s_Chip_need_block, defBody s_Chip_need_block, defScope s_Chip_need_block, []⟩) rfl
  have k_Chip_need_block : PySem.W.keepIn K (.ref (A.getD 41 0)) = true := D_Chip_need_block.kp
  have F_Chip_need_block : Fun K "need_block" "Chip.need_block" s_Chip_need_block (A.getD 41 0) fd_Chip_need_block := funK_of D_Chip_need_block
  have b_Chip_need_block := F_Chip_need_block.binds (ps := ["self", "block"]) fun _ _ _ _ _ _ us hl => match us, hl with | [_, _], _ => rfl
  obtain ⟨fd_Chip_need_power, D_Chip_need_power⟩ := c.def_ 24 (d := ⟨42, "need_power", "Chip.need_power", defArgs s_Chip_need_power, defBody s_Chip_need_power, defScope s_Chip_need_power, []⟩) rfl
  have k_Chip_need_power : PySem.W.keepIn K (.ref (A.getD 42 0)) = true := D_Chip_need_power.kp
  have F_Chip_need_power : Fun K "need_power" "Chip.need_power" s_Chip_need_power (A.getD 42 0) fd_Chip_need_power := funK_of D_Chip_need_power
  have b_Chip_need_power := F_Chip_need_power.binds (ps := ["self"]) fun _ _ _ _ _ _ us hl => match us, hl with | [_], _ => rfl
  obtain ⟨fd_Chip_need_good, D_Chip_need_good⟩ := c.def_ 25 (d := ⟨43, "need_good", "Chip.need_good", defArgs s_Chip_need_good, defBody s_Chip_need_good, defScope s_Chip_need_good, []⟩) rfl
  have k_Chip_need_good : PySem.W.keepIn K (.ref (A.getD 43 0)) = true := D_Chip_need_good.kp
  have F_Chip_need_good : Fun K "need_good" "Chip.need_good" s_Chip_need_good (A.getD 43 0) fd_Chip_need_good := funK_of D_Chip_need_good
  have b_Chip_need_good := F_Chip_need_good.binds (ps := ["self", "block"]) fun _ _ _ _ _ _ us hl => match us, hl with | [_, _], _ => rfl
  obtain ⟨fd_Chip_goes_well, D_Chip_goes_well⟩ := c.def_ 26 (d := ⟨44, "goes_well", "Chip.goes_well", defArgs s_Chip_goes_well, defBody s_Chip_goes_well, defScope s_Chip_goes_well, []⟩) rfl
  have k_Chip_goes_well : PySem.W.keepIn K (.ref (A.getD 44 0)) = true := D_Chip_goes_well.kp
  have F_Chip_goes_well : Fun K "goes_well" "Chip.goes_well" s_Chip_goes_well (A.getD 44 0) fd_Chip_goes_well := funK_of D_Chip_goes_well
  have b_Chip_goes_well := F_Chip_goes_well.binds (ps := ["self", "block", "worn"]) fun _ _ _ _ _ _ us hl => match us, hl with | [_, _, _], _ => rfl
  obtain ⟨fd_Chip_put, D_Chip_put⟩ := c.def_ 27 (d := ⟨45, "put", "Chip.put", defArgs s_Chip_put, defBody s_Chip_put, defScope s_Chip_put, []⟩) rfl
  have k_Chip_put : PySem.W.keepIn K (.ref (A.getD 45 0)) = true := D_Chip_put.kp
  have F_Chip_put : Fun K "put" "Chip.put" s_Chip_put (A.getD 45 0) fd_Chip_put := funK_of D_Chip_put
  have b_Chip_put := F_Chip_put.binds (ps := ["self", "page", "stuff"]) fun _ _ _ _ _ _ us hl => match us, hl with | [_, _, _], _ => rfl
  obtain ⟨fd_Chip_read, D_Chip_read⟩ := c.def_ 28 (d := ⟨46, "read", "Chip.read", defArgs s_Chip_read, defBody s_Chip_read, defScope s_Chip_read, []⟩) rfl
  have k_Chip_read : PySem.W.keepIn K (.ref (A.getD 46 0)) = true := D_Chip_read.kp
  have F_Chip_read : Fun K "read" "Chip.read" s_Chip_read (A.getD 46 0) fd_Chip_read := funK_of D_Chip_read
  have b_Chip_read := F_Chip_read.binds (ps := ["self", "page"]) fun _ _ _ _ _ _ us hl => match us, hl with | [_, _], _ => rfl
  obtain ⟨fd_Chip_is_dark, D_Chip_is_dark⟩ := c.def_ 29 (d := ⟨47, "is_dark", "Chip.is_dark", defArgs s_Chip_is_dark, defBody s_Chip_is_dark, defScope s_Chip_is_dark, []⟩) rfl
  have k_Chip_is_dark : PySem.W.keepIn K (.ref (A.getD 47 0)) = true := D_Chip_is_dark.kp
  have F_Chip_is_dark : Fun K "is_dark" "Chip.is_dark" s_Chip_is_dark (A.getD 47 0) fd_Chip_is_dark := funK_of D_Chip_is_dark
  have b_Chip_is_dark := F_Chip_is_dark.binds (ps := ["self"]) fun _ _ _ _ _ _ us hl => match us, hl with | [_], _ => rfl
  obtain ⟨fd_Chip_failed, D_Chip_failed⟩ := c.def_ 30 (d := ⟨48, "failed", "Chip.failed", defArgs s_Chip_failed, defBody s_Chip_failed, defScope s_Chip_failed, []⟩) rfl
  have k_Chip_failed : PySem.W.keepIn K (.ref (A.getD 48 0)) = true := D_Chip_failed.kp
  have F_Chip_failed : Fun K "failed" "Chip.failed" s_Chip_failed (A.getD 48 0) fd_Chip_failed := funK_of D_Chip_failed
  have b_Chip_failed := F_Chip_failed.binds (ps := ["self", "block"]) fun _ _ _ _ _ _ us hl => match us, hl with | [_, _], _ => rfl
  obtain ⟨fd_Chip_deeds, D_Chip_deeds⟩ := c.def_ 31 (d := ⟨49, "deeds", "Chip.deeds", defArgs s_Chip_deeds, defBody s_Chip_deeds, defScope s_Chip_deeds, []⟩) rfl
  have k_Chip_deeds : PySem.W.keepIn K (.ref (A.getD 49 0)) = true := D_Chip_deeds.kp
  have F_Chip_deeds : Fun K "deeds" "Chip.deeds" s_Chip_deeds (A.getD 49 0) fd_Chip_deeds := funK_of D_Chip_deeds
  have b_Chip_deeds := F_Chip_deeds.binds (ps := ["self"]) fun _ _ _ _ _ _ us hl => match us, hl with | [_], _ => rfl
  obtain ⟨fd__law_cell_at, D__law_cell_at⟩ := c.def_ 32 (d := ⟨50, "_law_cell_at", "_law_cell_at", defArgs s__law_cell_at, defBody s__law_cell_at, defScope s__law_cell_at, []⟩) rfl
  have k__law_cell_at : PySem.W.keepIn K (.ref (A.getD 50 0)) = true := D__law_cell_at.kp
  have F__law_cell_at : Fun K "_law_cell_at" "_law_cell_at" s__law_cell_at (A.getD 50 0) fd__law_cell_at := funK_of D__law_cell_at
  have b__law_cell_at := F__law_cell_at.binds (ps := ["_law_script", "_law_k"]) fun _ _ _ _ _ _ us hl => match us, hl with | [_, _], _ => rfl
  obtain ⟨fd__law_mix, D__law_mix⟩ := c.def_ 33 (d := ⟨51, "_law_mix", "_law_mix", defArgs s__law_mix, defBody s__law_mix, defScope s__law_mix, []⟩) rfl
  have k__law_mix : PySem.W.keepIn K (.ref (A.getD 51 0)) = true := D__law_mix.kp
  have F__law_mix : Fun K "_law_mix" "_law_mix" s__law_mix (A.getD 51 0) fd__law_mix := funK_of D__law_mix
  have b__law_mix := F__law_mix.binds (ps := ["_law_cell", "_law_k"]) fun _ _ _ _ _ _ us hl => match us, hl with | [_, _], _ => rfl
  obtain ⟨fd__law_newest, D__law_newest⟩ := c.def_ 34 (d := ⟨52, "_law_newest", "_law_newest", defArgs s__law_newest, defBody s__law_newest, defScope s__law_newest, []⟩) rfl
  have k__law_newest : PySem.W.keepIn K (.ref (A.getD 52 0)) = true := D__law_newest.kp
  have F__law_newest : Fun K "_law_newest" "_law_newest" s__law_newest (A.getD 52 0) fd__law_newest := funK_of D__law_newest
  have b__law_newest := F__law_newest.binds (ps := ["_law_chip", "_law_size"]) fun _ _ _ _ _ _ us hl => match us, hl with | [_, _], _ => rfl
  obtain ⟨fd__law_found, D__law_found⟩ := c.def_ 35 (d := ⟨53, "_law_found", "_law_found", defArgs s__law_found, defBody s__law_found, defScope s__law_found, []⟩) rfl
  have k__law_found : PySem.W.keepIn K (.ref (A.getD 53 0)) = true := D__law_found.kp
  have F__law_found : Fun K "_law_found" "_law_found" s__law_found (A.getD 53 0) fd__law_found := funK_of D__law_found
  have b__law_found := F__law_found.binds (ps := ["_law_chip", "_law_size"]) fun _ _ _ _ _ _ us hl => match us, hl with | [_, _], _ => rfl
  obtain ⟨fd__law_name, D__law_name⟩ := c.def_ 36 (d := ⟨54, "_law_name", "_law_name", defArgs s__law_name, defBody s__law_name, defScope s__law_name, []⟩) rfl
  have k__law_name : PySem.W.keepIn K (.ref (A.getD 54 0)) = true := D__law_name.kp
  have F__law_name : Fun K "_law_name" "_law_name" s__law_name (A.getD 54 0) fd__law_name := funK_of D__law_name
  have b__law_name := F__law_name.binds (ps := ["_law_k", "_law_way"]) fun _ _ _ _ _ _ us hl => match us, hl with | [_, _], _ => rfl
  obtain ⟨fd__law_bits, D__law_bits⟩ := c.def_ 37 (d := ⟨55, "_law_bits", "_law_bits", defArgs s__law_bits, defBody s__law_bits, defScope s__law_bits, []⟩) rfl
  have k__law_bits : PySem.W.keepIn K (.ref (A.getD 55 0)) = true := D__law_bits.kp
  have F__law_bits : Fun K "_law_bits" "_law_bits" s__law_bits (A.getD 55 0) fd__law_bits := funK_of D__law_bits
  have b__law_bits := F__law_bits.binds (ps := ["_law_cell", "_law_way"]) fun _ _ _ _ _ _ us hl => match us, hl with | [_, _], _ => rfl
  obtain ⟨fd__law_lay, D__law_lay⟩ := c.def_ 38 (d := ⟨56, "_law_lay", "_law_lay", defArgs s__law_lay, defBody s__law_lay, defScope s__law_lay, []⟩) rfl
  have k__law_lay : PySem.W.keepIn K (.ref (A.getD 56 0)) = true := D__law_lay.kp
  have F__law_lay : Fun K "_law_lay" "_law_lay" s__law_lay (A.getD 56 0) fd__law_lay := funK_of D__law_lay
  have b__law_lay := F__law_lay.binds (ps := ["_law_chip", "_law_script", "_law_blocks", "_law_pages", "_law_way"]) fun _ _ _ _ _ _ us hl => match us, hl with | [_, _, _, _, _], _ => rfl
  obtain ⟨fd__law_page, D__law_page⟩ := c.def_ 39 (d := ⟨57, "_law_page", "_law_page", defArgs s__law_page, defBody s__law_page, defScope s__law_page, []⟩) rfl
  have k__law_page : PySem.W.keepIn K (.ref (A.getD 57 0)) = true := D__law_page.kp
  have F__law_page : Fun K "_law_page" "_law_page" s__law_page (A.getD 57 0) fd__law_page := funK_of D__law_page
  have b__law_page := F__law_page.binds (ps := ["_law_cell", "_law_size"]) fun _ _ _ _ _ _ us hl => match us, hl with | [_, _], _ => rfl
  obtain ⟨fd__law_spoiled, D__law_spoiled⟩ := c.def_ 40 (d := ⟨58, "_law_spoiled", "_law_spoiled", defArgs s__law_spoiled, defBody s__law_spoiled, defScope s__law_spoiled, []⟩) rfl
  have k__law_spoiled : PySem.W.keepIn K (.ref (A.getD 58 0)) = true := D__law_spoiled.kp
  have F__law_spoiled : Fun K "_law_spoiled" "_law_spoiled" s__law_spoiled (A.getD 58 0) fd__law_spoiled := funK_of D__law_spoiled
  have b__law_spoiled := F__law_spoiled.binds (ps := ["_law_told", "_law_cell", "_law_size", "_law_way"]) fun _ _ _ _ _ _ us hl => match us, hl with | [_, _, _, _], _ => rfl
  obtain ⟨fd__law_sort, D__law_sort⟩ := c.def_ 41 (d := ⟨59, "_law_sort", "_law_sort", defArgs s__law_sort, defBody s__law_sort, defScope s__law_sort, []⟩) rfl
  have k__law_sort : PySem.W.keepIn K (.ref (A.getD 59 0)) = true := D__law_sort.kp
  have F__law_sort : Fun K "_law_sort" "_law_sort" s__law_sort (A.getD 59 0) fd__law_sort := funK_of D__law_sort
  have b__law_sort := F__law_sort.binds (ps := ["_law_chip", "_law_size", "_law_found_here", "_law_sheet", "_law_page_here"]) fun _ _ _ _ _ _ us hl => match us, hl with | [_, _, _, _, _], _ => rfl
  obtain ⟨fd__law_due, D__law_due⟩ := c.def_ 42 (d := ⟨60, "_law_due", "_law_due", defArgs s__law_due, defBody s__law_due, defScope s__law_due, []⟩) rfl
  have k__law_due : PySem.W.keepIn K (.ref (A.getD 60 0)) = true := D__law_due.kp
  have F__law_due : Fun K "_law_due" "_law_due" s__law_due (A.getD 60 0) fd__law_due := funK_of D__law_due
  have b__law_due := F__law_due.binds (ps := ["_law_chip", "_law_size", "_law_found_here", "_law_told"]) fun _ _ _ _ _ _ us hl => match us, hl with | [_, _, _, _], _ => rfl
  obtain ⟨fd_law, D_law⟩ := c.def_ 43 (d := ⟨61, "law", "law", defArgs s_law, defBody s_law, defScope s_law, []⟩) rfl
  have k_law : PySem.W.keepIn K (.ref (A.getD 61 0)) = true := D_law.kp
  have F_law : Fun K "law" "law" s_law (A.getD 61 0) fd_law := funK_of D_law
  have b_law := F_law.binds (ps := ["_law_script"]) fun _ _ _ _ _ _ us hl => match us, hl with | [_], _ => rfl
  have xo_BlockFailed : OexC K (A.getD 8 0) := ⟨oexB_ok xl_BlockFailed, xs_BlockFailed, xr_BlockFailed, xy_BlockFailed, xk_BlockFailed⟩
  have xo_NotClear : OexC K (A.getD 9 0) := ⟨oexB_ok xl_NotClear, xs_NotClear, xr_NotClear, xy_NotClear, xk_NotClear⟩
  let T : Txt K mg := {
    a_mark_of := (A.getD 18 0)
    fd_mark_of := fd_mark_of
    F_mark_of := F_mark_of
    bd_mark_of := b_mark_of
    k_mark_of := k_mark_of
    g_mark_of := PySem.W.mg_of X G a_mark_of
    a_stamp_of := (A.getD 19 0)
    fd_stamp_of := fd_stamp_of
    F_stamp_of := F_stamp_of
    bd_stamp_of := b_stamp_of
    k_stamp_of := k_stamp_of
    g_stamp_of := PySem.W.mg_of X G a_stamp_of
    a_name_of := (A.getD 20 0)
    fd_name_of := fd_name_of
    F_name_of := F_name_of
    bd_name_of := b_name_of
    k_name_of := k_name_of
    g_name_of := PySem.W.mg_of X G a_name_of
    a_sheets_of := (A.getD 21 0)
    fd_sheets_of := fd_sheets_of
    F_sheets_of := F_sheets_of
    bd_sheets_of := b_sheets_of
    k_sheets_of := k_sheets_of
    g_sheets_of := PySem.W.mg_of X G a_sheets_of
    a_Book_init := (A.getD 22 0)
    fd_Book_init := fd_Book_init
    F_Book_init := F_Book_init
    bd_Book_init := b_Book_init
    k_Book_init := k_Book_init
    a_Book_start_at := (A.getD 23 0)
    fd_Book_start_at := fd_Book_start_at
    F_Book_start_at := F_Book_start_at
    bd_Book_start_at := b_Book_start_at
    k_Book_start_at := k_Book_start_at
    a_Book_mark := (A.getD 24 0)
    fd_Book_mark := fd_Book_mark
    F_Book_mark := F_Book_mark
    bd_Book_mark := b_Book_mark
    k_Book_mark := k_Book_mark
    a_Book_note := (A.getD 25 0)
    fd_Book_note := fd_Book_note
    F_Book_note := F_Book_note
    bd_Book_note := b_Book_note
    k_Book_note := k_Book_note
    a_Book_forget := (A.getD 26 0)
    fd_Book_forget := fd_Book_forget
    F_Book_forget := F_Book_forget
    bd_Book_forget := b_Book_forget
    k_Book_forget := k_Book_forget
    a_Book_held := (A.getD 27 0)
    fd_Book_held := fd_Book_held
    F_Book_held := F_Book_held
    bd_Book_held := b_Book_held
    k_Book_held := k_Book_held
    a_Book_tell := (A.getD 28 0)
    fd_Book_tell := fd_Book_tell
    F_Book_tell := F_Book_tell
    bd_Book_tell := b_Book_tell
    k_Book_tell := k_Book_tell
    a_BlockFailed_init := (A.getD 29 0)
    fd_BlockFailed_init := fd_BlockFailed_init
    F_BlockFailed_init := F_BlockFailed_init
    bd_BlockFailed_init := b_BlockFailed_init
    k_BlockFailed_init := k_BlockFailed_init
    a_NotClear_init := (A.getD 30 0)
    fd_NotClear_init := fd_NotClear_init
    F_NotClear_init := F_NotClear_init
    bd_NotClear_init := b_NotClear_init
    k_NotClear_init := k_NotClear_init
    a_is_whole := (A.getD 31 0)
    fd_is_whole := fd_is_whole
    F_is_whole := F_is_whole
    bd_is_whole := b_is_whole
    k_is_whole := k_is_whole
    g_is_whole := PySem.W.mg_of X G a_is_whole
    a_is_within := (A.getD 32 0)
    fd_is_within := fd_is_within
    F_is_within := F_is_within
    bd_is_within := b_is_within
    k_is_within := k_is_within
    g_is_within := PySem.W.mg_of X G a_is_within
    a_rows_by_stamp := (A.getD 33 0)
    fd_rows_by_stamp := fd_rows_by_stamp
    F_rows_by_stamp := F_rows_by_stamp
    bd_rows_by_stamp := b_rows_by_stamp
    k_rows_by_stamp := k_rows_by_stamp
    g_rows_by_stamp := PySem.W.mg_of X G a_rows_by_stamp
    a_stamp_of_roll := (A.getD 34 0)
    fd_stamp_of_roll := fd_stamp_of_roll
    F_stamp_of_roll := F_stamp_of_roll
    bd_stamp_of_roll := b_stamp_of_roll
    k_stamp_of_roll := k_stamp_of_roll
    g_stamp_of_roll := PySem.W.mg_of X G a_stamp_of_roll
    a_book_of := (A.getD 35 0)
    fd_book_of := fd_book_of
    F_book_of := F_book_of
    bd_book_of := b_book_of
    k_book_of := k_book_of
    g_book_of := PySem.W.mg_of X G a_book_of
    a_fault := (A.getD 36 0)
    fd_fault := fd_fault
    F_fault := F_fault
    bd_fault := b_fault
    k_fault := k_fault
    g_fault := PySem.W.mg_of X G a_fault
    a_faults := (A.getD 37 0)
    fd_faults := fd_faults
    F_faults := F_faults
    bd_faults := b_faults
    k_faults := k_faults
    g_faults := PySem.W.mg_of X G a_faults
    a_endurance := (A.getD 38 0)
    fd_endurance := fd_endurance
    F_endurance := F_endurance
    bd_endurance := b_endurance
    k_endurance := k_endurance
    g_endurance := PySem.W.mg_of X G a_endurance
    a_Chip_init := (A.getD 39 0)
    fd_Chip_init := fd_Chip_init
    F_Chip_init := F_Chip_init
    k_Chip_init := k_Chip_init
    ds2_Chip_init := ds2_Chip_init
    dv2_Chip_init := dv2_Chip_init
    bd2_Chip_init := bd2_Chip_init
    a_Chip_need_page := (A.getD 40 0)
    fd_Chip_need_page := fd_Chip_need_page
    F_Chip_need_page := F_Chip_need_page
    bd_Chip_need_page := b_Chip_need_page
    k_Chip_need_page := k_Chip_need_page
    a_Chip_need_block := (A.getD 41 0)
    fd_Chip_need_block := fd_Chip_need_block
    F_Chip_need_block := F_Chip_need_block
    bd_Chip_need_block := b_Chip_need_block
    k_Chip_need_block := k_Chip_need_block
    a_Chip_need_power := (A.getD 42 0)
    fd_Chip_need_power := fd_Chip_need_power
    F_Chip_need_power := F_Chip_need_power
    bd_Chip_need_power := b_Chip_need_power
    k_Chip_need_power := k_Chip_need_power
    a_Chip_need_good := (A.getD 43 0)
    fd_Chip_need_good := fd_Chip_need_good
    F_Chip_need_good := F_Chip_need_good
    bd_Chip_need_good := b_Chip_need_good
    k_Chip_need_good := k_Chip_need_good
    a_Chip_goes_well := (A.getD 44 0)
    fd_Chip_goes_well := fd_Chip_goes_well
    F_Chip_goes_well := F_Chip_goes_well
    bd_Chip_goes_well := b_Chip_goes_well
    k_Chip_goes_well := k_Chip_goes_well
    a_Chip_put := (A.getD 45 0)
    fd_Chip_put := fd_Chip_put
    F_Chip_put := F_Chip_put
    bd_Chip_put := b_Chip_put
    k_Chip_put := k_Chip_put
    a_Chip_read := (A.getD 46 0)
    fd_Chip_read := fd_Chip_read
    F_Chip_read := F_Chip_read
    bd_Chip_read := b_Chip_read
    k_Chip_read := k_Chip_read
    a_Chip_is_dark := (A.getD 47 0)
    fd_Chip_is_dark := fd_Chip_is_dark
    F_Chip_is_dark := F_Chip_is_dark
    bd_Chip_is_dark := b_Chip_is_dark
    k_Chip_is_dark := k_Chip_is_dark
    a_Chip_failed := (A.getD 48 0)
    fd_Chip_failed := fd_Chip_failed
    F_Chip_failed := F_Chip_failed
    bd_Chip_failed := b_Chip_failed
    k_Chip_failed := k_Chip_failed
    a_Chip_deeds := (A.getD 49 0)
    fd_Chip_deeds := fd_Chip_deeds
    F_Chip_deeds := F_Chip_deeds
    bd_Chip_deeds := b_Chip_deeds
    k_Chip_deeds := k_Chip_deeds
    a__law_cell_at := (A.getD 50 0)
    fd__law_cell_at := fd__law_cell_at
    F__law_cell_at := F__law_cell_at
    bd__law_cell_at := b__law_cell_at
    k__law_cell_at := k__law_cell_at
    g__law_cell_at := PySem.W.mg_of X G a__law_cell_at
    a__law_mix := (A.getD 51 0)
    fd__law_mix := fd__law_mix
    F__law_mix := F__law_mix
    bd__law_mix := b__law_mix
    k__law_mix := k__law_mix
    g__law_mix := PySem.W.mg_of X G a__law_mix
    a__law_newest := (A.getD 52 0)
    fd__law_newest := fd__law_newest
    F__law_newest := F__law_newest
    bd__law_newest := b__law_newest
    k__law_newest := k__law_newest
    g__law_newest := PySem.W.mg_of X G a__law_newest
    a__law_found := (A.getD 53 0)
    fd__law_found := fd__law_found
    F__law_found := F__law_found
    bd__law_found := b__law_found
    k__law_found := k__law_found
    g__law_found := PySem.W.mg_of X G a__law_found
    a__law_name := (A.getD 54 0)
    fd__law_name := fd__law_name
    F__law_name := F__law_name
    bd__law_name := b__law_name
    k__law_name := k__law_name
    g__law_name := PySem.W.mg_of X G a__law_name
    a__law_bits := (A.getD 55 0)
    fd__law_bits := fd__law_bits
    F__law_bits := F__law_bits
    bd__law_bits := b__law_bits
    k__law_bits := k__law_bits
    g__law_bits := PySem.W.mg_of X G a__law_bits
    a__law_lay := (A.getD 56 0)
    fd__law_lay := fd__law_lay
    F__law_lay := F__law_lay
    bd__law_lay := b__law_lay
    k__law_lay := k__law_lay
    g__law_lay := PySem.W.mg_of X G a__law_lay
    a__law_page := (A.getD 57 0)
    fd__law_page := fd__law_page
    F__law_page := F__law_page
    bd__law_page := b__law_page
    k__law_page := k__law_page
    g__law_page := PySem.W.mg_of X G a__law_page
    a__law_spoiled := (A.getD 58 0)
    fd__law_spoiled := fd__law_spoiled
    F__law_spoiled := F__law_spoiled
    bd__law_spoiled := b__law_spoiled
    k__law_spoiled := k__law_spoiled
    g__law_spoiled := PySem.W.mg_of X G a__law_spoiled
    a__law_sort := (A.getD 59 0)
    fd__law_sort := fd__law_sort
    F__law_sort := F__law_sort
    bd__law_sort := b__law_sort
    k__law_sort := k__law_sort
    g__law_sort := PySem.W.mg_of X G a__law_sort
    a__law_due := (A.getD 60 0)
    fd__law_due := fd__law_due
    F__law_due := F__law_due
    bd__law_due := b__law_due
    k__law_due := k__law_due
    g__law_due := PySem.W.mg_of X G a__law_due
    a_law := (A.getD 61 0)
    fd_law := fd_law
    F_law := F_law
    bd_law := b_law
    k_law := k_law
    C_Book := (A.getD 2 0)
    g_Book := PySem.W.mg_of X G aC_Book
    cl_Book := ⟨pg_Book, hd_Book, po_Book, sa_Book⟩
    na_Book_blocks := na_Book_blocks
    na_Book_pages := na_Book_pages
    na_Book_where := na_Book_where
    na_Book_names := na_Book_names
    na_Book_live := na_Book_live
    na_Book_filled := na_Book_filled
    na_Book_born := na_Book_born
    na_Book_stamp := na_Book_stamp
    mk_Book := ⟨mi_Book, at_Book_init, fn_Book_init, kc_Book⟩
    m_Book_start_at := ⟨at_Book_start_at, fn_Book_start_at, k_Book_start_at⟩
    m_Book_mark := ⟨at_Book_mark, fn_Book_mark, k_Book_mark⟩
    m_Book_note := ⟨at_Book_note, fn_Book_note, k_Book_note⟩
    m_Book_forget := ⟨at_Book_forget, fn_Book_forget, k_Book_forget⟩
    m_Book_held := ⟨at_Book_held, fn_Book_held, k_Book_held⟩
    m_Book_tell := ⟨at_Book_tell, fn_Book_tell, k_Book_tell⟩
    C_Chip := (A.getD 3 0)
    g_Chip := PySem.W.mg_of X G aC_Chip
    cl_Chip := ⟨pg_Chip, hd_Chip, po_Chip, sa_Chip⟩
    na_Chip_blocks := na_Chip_blocks
    na_Chip_pages := na_Chip_pages
    na_Chip_most := na_Chip_most
    na_Chip_lasts := na_Chip_lasts
    na_Chip_stuff := na_Chip_stuff
    na_Chip_tried := na_Chip_tried
    na_Chip_clearings := na_Chip_clearings
    na_Chip_broken := na_Chip_broken
    na_Chip_left := na_Chip_left
    na_Chip_log := na_Chip_log
    mk_Chip := ⟨mi_Chip, at_Chip_init, fn_Chip_init, kc_Chip⟩
    m_Chip_need_page := ⟨at_Chip_need_page, fn_Chip_need_page, k_Chip_need_page⟩
    m_Chip_need_block := ⟨at_Chip_need_block, fn_Chip_need_block, k_Chip_need_block⟩
    m_Chip_need_power := ⟨at_Chip_need_power, fn_Chip_need_power, k_Chip_need_power⟩
    m_Chip_need_good := ⟨at_Chip_need_good, fn_Chip_need_good, k_Chip_need_good⟩
    m_Chip_goes_well := ⟨at_Chip_goes_well, fn_Chip_goes_well, k_Chip_goes_well⟩
    m_Chip_put := ⟨at_Chip_put, fn_Chip_put, k_Chip_put⟩
    m_Chip_read := ⟨at_Chip_read, fn_Chip_read, k_Chip_read⟩
    m_Chip_is_dark := ⟨at_Chip_is_dark, fn_Chip_is_dark, k_Chip_is_dark⟩
    m_Chip_failed := ⟨at_Chip_failed, fn_Chip_failed, k_Chip_failed⟩
    m_Chip_deeds := ⟨at_Chip_deeds, fn_Chip_deeds, k_Chip_deeds⟩
    C_WornError := (A.getD 4 0)
    g_WornError := PySem.W.mg_of X G aC_WornError
    xc_WornError := ⟨xq_WornError, xk_WornError, xr_WornError, xt_WornError⟩
    C_NoChip := (A.getD 5 0)
    g_NoChip := PySem.W.mg_of X G aC_NoChip
    xc_NoChip := ⟨xq_NoChip, xk_NoChip, xr_NoChip, xt_NoChip⟩
    C_NoPlace := (A.getD 6 0)
    g_NoPlace := PySem.W.mg_of X G aC_NoPlace
    xc_NoPlace := ⟨xq_NoPlace, xk_NoPlace, xr_NoPlace, xt_NoPlace⟩
    C_PowerGone := (A.getD 7 0)
    g_PowerGone := PySem.W.mg_of X G aC_PowerGone
    xc_PowerGone := ⟨xq_PowerGone, xk_PowerGone, xr_PowerGone, xt_PowerGone⟩
    C_BlockFailed := (A.getD 8 0)
    g_BlockFailed := PySem.W.mg_of X G aC_BlockFailed
    xi_BlockFailed := ⟨xo_BlockFailed, xi_BlockFailed, xt_BlockFailed, xfB_ok xf_BlockFailed⟩
    nx_BlockFailed_block := nx_BlockFailed_block
    C_NotClear := (A.getD 9 0)
    g_NotClear := PySem.W.mg_of X G aC_NotClear
    xi_NotClear := ⟨xo_NotClear, xi_NotClear, xt_NotClear, xfB_ok xf_NotClear⟩
    nx_NotClear_page := nx_NotClear_page
    wi_WornError := ⟨wa_WornError, wr_WornError, fclB_ok wf_WornError⟩
    b_len := PySem.W.mg_none_of X G z_len
    b_isinstance := PySem.W.mg_none_of X G z_isinstance
    b_min := PySem.W.mg_none_of X G z_min
    b_sorted := PySem.W.mg_none_of X G z_sorted
    b_int := PySem.W.mg_none_of X G z_int
    b_str := PySem.W.mg_none_of X G z_str
    b_list := PySem.W.mg_none_of X G z_list
    b_bool := PySem.W.mg_none_of X G z_bool
    b_range := PySem.W.mg_none_of X G z_range
    b_ValueError := PySem.W.mg_none_of X G z_ValueError
    u_ROLL := gvK K "ROLL"
    g_ROLL := PySem.W.mg_of X G v_ROLL
    r_ROLL := He.relB_ok vr_ROLL
    u_MANY := gvK K "MANY"
    g_MANY := PySem.W.mg_of X G v_MANY
    r_MANY := He.relB_ok vr_MANY
    u_MOST := gvK K "MOST"
    g_MOST := PySem.W.mg_of X G v_MOST
    r_MOST := He.relB_ok vr_MOST }
  have bl : ∀ (s : Shared) (v : Value), BindsTo s fd_law ⟨[v], []⟩ [("_law_script", v)] := fun s v => by
    have bb := D_law.bindsA (ps := ["_law_script"]) (fun _ _ _ _ _ _ us hl => match us, hl with | [_], _ => rfl) s [v] rfl
    exact bb
  exact ⟨T.fd_law, bl, fun base _ _ => ok_law T⟩
end My
theorem PySem.Challenge.cw_wornpages_k66_planted_faults_holds : PySem.Challenge.rw_wornpages_k66_planted_faults.Holds :=
  My.finE fun X G hfa c => My.txt_of X G hfa c
#print axioms PySem.Challenge.cw_wornpages_k66_planted_faults_holds
