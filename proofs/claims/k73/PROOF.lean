import PyProof.Rows.All
import Wide.All
import OpenK.AllK
import Wide.FinOn
import HandS.ForMost
import HandS.ForExc
import HandS.Flow
import HandS.Wide
import HandS.WideBits
import HandS.IsInst
import HandS.ExcInit
import HandS.ExcField
import HandS.ExcIs
import HandS.TryMany
import HandS.SetKeys
import HandS.More
import HandS.Deep
import HandS.TupSets
import HandS.SortRule
import HandS.SortInts
import HandS.Walk
import HandS.RevTup
import HandS.Rev
import HandS.Conv
import HandS.WordsDict
import HandS.Style
import HandS.HeadHook2
import HandS.DictTup
import HandS.SortKw
import KE.DataMinMax
import KE.GoesMore
import HandS.HotCalls
import HandS.SuiteRaise
import HandS.SetFor
import HandS.Strs
import HandS.ExcValue
import HandS.Head0
import HandS.Head1
import HandS.Head2
import HandS.HeadEnd
import HandS.HeadHook1
import HandS.Lambda
import HandS.EndTab
import PySem.Challenge.RW_wornpages_k73_whole_no_way_is_less
set_option Elab.async false
set_option linter.all false
set_option maxRecDepth 100000
set_option maxHeartbeats 4000000
/-! Kit: unified operators, method calls by the receiver's class, and step lemmas for readings. -/
namespace Kit
open PySem PySem.Spec PyProof.Rows L2
section
variable {X : Cx}
/-! ### unified operators -/
abbrev rStrAdd : R2 := fun x y H Q => ∃ i j, x = .str i ∧ y = .str j ∧ i.length + j.length ≤ sizeLine ∧ Q (.str (i ++ j)) H
def uAdd (K : PySem.W.Frag) : R2 := fun x y H Q => rI0 (fun i j => .int (i + j)) x y H Q ∨ (rStrAdd x y H Q ∨ (rCat x y H Q ∨ rCatT K x y H Q))
theorem op_uAdd : OpR X (binaryOp .Add) (uAdd X.K) := op_add.or (op_add_str.or (op_cat.or op_catT))
def uMul : R2 := fun x y H Q => rI CMul (fun i j => .int (i * j)) x y H Q ∨ (rRep x y H Q ∨ rI CMulW (fun i j => .int (i * j)) x y H Q)
theorem op_uMul : OpR X (binaryOp .Mult) uMul := op_mul.or (op_rep.or op_mulW)
def uShl : R2 := rI CShl fun i j => .int (i * 2 ^ j.toNat)
def uEq (K : PySem.W.Frag) : R2 := fun x y H Q => rEq x y H Q ∨ rEqD K x y H Q
theorem op_uEq (hu : X.A.units + 64 < cLine) : OpR X (compareOp .Eq) (uEq X.K) := op_eq.or (op_eqD hu)
def uNe (K : PySem.W.Frag) : R2 := fun x y H Q => rNe x y H Q ∨ rNeD K x y H Q
abbrev rLtI : R2 := rI0 fun i j => .bl (decide (i < j))
def uLt : R2 := rLtI
theorem op_uLt : OpR X (compareOp .Lt) uLt := op_lt
def uIn (K : PySem.W.Frag) : R2 := rIn K false
theorem op_uIn : OpR X (compareOp .In) (uIn X.K) := op_in_seq
def uNotIn (K : PySem.W.Frag) : R2 := rIn K true
abbrev rIsNon : R2 := fun x y H Q => y = .non ∧ Q (.bl (decide (x = .non))) H
abbrev rIsNotNon : R2 := fun x y H Q => y = .non ∧ Q (.bl (!decide (x = .non))) H
def uIs : R2 := fun x y H Q => rIsNon x y H Q ∨ rIsB x y H Q
theorem op_uIs : OpR X (compareOp .Is) uIs := op_isN.or op_isBl
def uIsNot : R2 := fun x y H Q => rIsNotNon x y H Q ∨ rNotB x y H Q
theorem op_uIsNot : OpR X (compareOp .IsNot) uIsNot := op_notN.or op_notBl
/-! ### calls -/
theorem passL2 : ∀ σ, PassesAt (L2.CX X.prog X.w) X σ ((fun _ => E0) σ) := fun _ _ _ _ _ _ _ h => by
  obtain ⟨_, _, _, _, _, _, _, _, _, _, _, _, z⟩ := h
  exact z.elim
/-- a method of a class, by what it promises -/
structure MO (P : Program) (w : World) (K : PySem.W.Frag) (mg : Str → Option Value) (base : Heap) (CX : CXT) (n : Nat) (C : Addr) (m : Str) (sp : Sp) : Prop where
  ex : ∃ f fd ps, Cls K C ∧ Meth K C m f ∧ FnOk P w K mg base CX n f fd ps sp ∧ Binds K fd ps []
variable {CX : CXT} {k : Nat} {f C : Addr} {fd : FuncData} {ps : List Str} {sp : Sp} {dvs : List V} {ds : List Value} {E : L2.St → XK} {x m : Str} {p pos apos : Pos} {e o : Expr} {es : List Expr} {ta : TE} {t : TA}
/-- o.m(..), by the class that o has -/
def mtK (P : Program) (w : World) (K : PySem.W.Frag) (mg : Str → Option Value) (base : Heap) (CX : CXT) (n : Nat) (m : Str) (E : XK) (σ : L2.St) (t : TA) (Q : VK) : V → Hp → Prop := fun x H1 => ∃ a C dx fs sp, x = .ref a ∧ H1 a = some (.ins C dx fs) ∧ fs.lookup m = none ∧
  MO P w K mg base CX n C m sp ∧ t σ H1 fun vs H2 => sp (x :: vs) H2 Q E
def tMethD (P : Program) (w : World) (K : PySem.W.Frag) (mg : Str → Option Value) (base : Heap) (CX : CXT) (n : Nat) (m : Str) (E : L2.St → XK) (ta : TE) (t : TA) : TE := fun σ H Q => ta σ H (mtK P w K mg base CX n m (E σ) σ t Q)
theorem pe_methD {pl : Sem Bool} (he : PE X o ta) (hr : Room k X.A) (hx : ∀ σ, PassesAt CX X σ (E σ)) (ha : PA X (e :: es) t)
    (hst : starEach (e :: es) X.env = (false, eval e X.env) :: starEach es X.env := by rfl) (hpl : (backTo pos (starEach es X.env)).any (·.1) = false := by rfl)
    (ht : eval (.Call (.Attribute o m apos) (e :: es) [] pos) X.env = (do
      let ov ← eval o X.env
      standAt apos.atName
      let (f, first) ← holding [ov] (getMethod ov m pl)
      callWith pos f first (backTo pos (starEach (e :: es) X.env)) (backToKw pos (keywordEach [] X.env))) := by rfl) :
    PE X (.Call (.Attribute o m apos) (e :: es) [] pos) (tMethD X.prog X.w X.K X.mg X.base CX k m E ta t) := by
  refine ⟨fun pins s σ H Q I h => ?_⟩
  refine PySem.W.methodCall_KW (pl := pl) (thn (he.run pins s σ H _ I h) fun u s1 ⟨x, H1, I1, rx, a, C, dx, fs, sp, ex, ea, l, mo, q⟩ => ?_) ht
  subst ex
  obtain rfl : u = Value.ref a := rx
  obtain ⟨f, fd, ps, c, hm, F, hb⟩ := mo.ex
  refine getmeth_ok I1 ea c hm l ?_
  refine PySem.W.callWith_K (first := [.ref a]) (h₀ := X.base) I.ok.mod.kin hm.kp (thn (ha.run pos pins s1 σ H1 _ I1 q) fun us s2 ⟨vs, H2, I2, r, q2⟩ => ⟨I2.kIn, ?_⟩) hst hpl
  exact run_fnS (us := .ref a :: us) (vs := .ref a :: vs) F hr hb (hx σ) I2 (.cons rfl r) q2
theorem pe_methD0 {pl : Sem Bool} (he : PE X o ta) (hr : Room k X.A) (hx : ∀ σ, PassesAt CX X σ (E σ))
    (ht : eval (.Call (.Attribute o m apos) [] [] pos) X.env = (do
      let ov ← eval o X.env
      standAt apos.atName
      let (f, first) ← holding [ov] (getMethod ov m pl)
      callWith pos f first (backTo pos (starEach [] X.env)) (backToKw pos (keywordEach [] X.env))) := by rfl) :
    PE X (.Call (.Attribute o m apos) [] [] pos) (tMethD X.prog X.w X.K X.mg X.base CX k m E ta tNil) := by
  refine ⟨fun pins s σ H Q I h => ?_⟩
  refine PySem.W.methodCall_KW (pl := pl) (thn (he.run pins s σ H _ I h) fun u s1 ⟨x, H1, I1, rx, a, C, dx, fs, sp, ex, ea, l, mo, q⟩ => ?_) ht
  subst ex
  obtain rfl : u = Value.ref a := rx
  obtain ⟨f, fd, ps, c, hm, F, hb⟩ := mo.ex
  refine getmeth_ok I1 ea c hm l ?_
  exact PySem.W.callWith_K0 (first := [.ref a]) I1.kIn hm.kp (run_fnS (us := [.ref a]) (vs := [.ref a]) F hr hb (hx σ) I1 (.cons rfl .nil) q)
/-- C(..), what is raised at the slots -/
def tMakeS (C : Addr) (sp : Sp) (dvs : List V) (E : L2.St → XK) (t : TA) : TE := fun σ H Q => t σ H fun vs H1 => ∀ x dx, H1 x = none → H1 dx = none → dx ≠ x →
  sp (.ref x :: (vs ++ dvs)) (upd (upd H1 dx (.own x)) x (.ins C dx [])) (fun v H2 => v = .non ∧ Q (.ref x) H2) (E σ)
end
section
variable {X : Cx} {CX : CXT} {k : Nat} {f C : Addr} {fd : FuncData} {ps : List Str} {sp : Sp} {dvs : List V} {ds : List Value} {E : L2.St → XK} {x : Str} {p pos : Pos} {e : Expr} {es : List Expr} {t : TA}
def tMake0 (C : Addr) : TE := fun _ H Q => ∀ x dx, H x = none → H dx = none → dx ≠ x → Q (.ref x) (upd (upd H dx (.own x)) x (.ins C dx []))
theorem run_makeS {pins : List (Addr × Obj)} {σ : L2.St} {H : Hp} {s : Shared} {Q : VK} {us : List Value} {vs : List V} (M : Mk X.K C f) (F : FnOk X.prog X.w X.K X.mg X.base CX k f fd ps sp) (hr : Room (k + 1) X.A) (hb : Binds X.K fd ps ds) (hd : Vals dvs ds)
    (hx : ∀ σ, PassesAt CX X σ (E σ)) (I : Inv X pins σ H s) (r : Vals vs us)
    (h : ∀ x dx, H x = none → H dx = none → dx ≠ x → sp (.ref x :: (vs ++ dvs)) (upd (upd H dx (.own x)) x (.ins C dx [])) (fun v H2 => v = .non ∧ Q (.ref x) H2) (E σ)) :
    wpAny (model X.prog X.w) X.A (call (.ref C) us) (EP X pins σ Q) X.xe s := by
  have hq := h (s.heap.objs.size + 1) s.heap.objs.size (I.hok.fresh (Nat.le_succ _)) (I.hok.fresh (Nat.le_refl _)) (Nat.ne_of_lt (Nat.lt_succ_self _))
  have I2 := Inv.made (C := C) I
  have r2 : Vals (V.ref (s.heap.objs.size + 1) :: (vs ++ dvs)) (Value.ref (s.heap.objs.size + 1) :: (us ++ ds)) := .cons rfl (r.append hd)
  have hl : (Value.ref (s.heap.objs.size + 1) :: us ++ ds).length = ps.length := by
    have e := r2.length
    rw [F.len _ _ _ _ hq] at e
    exact e.symm
  refine wpAny_call (make_map (f := f) I.kIn M.makes M.init (beq_iff_eq.mp M.fn) (codeAny_mono (F.run _ X.stack _ _ ⟨Value.ref (s.heap.objs.size + 1) :: us, []⟩ (Value.ref (s.heap.objs.size + 1) :: (us ++ ds)) _ _ (E σ) (hr.make C us [])
    (I2.env0.make C us []) (hb _ (Value.ref (s.heap.objs.size + 1) :: us) I2.kIn hl) r2 hq) fun r s' hq' => ?_))
  cases r with
  | error e => exact hx σ pins _ _ e s' I2 hq'
  | ok fl =>
    cases fl with
    | ret u =>
      obtain ⟨v, H', I3, rv, ev, q3⟩ := I2.after hq'
      subst ev
      exact ⟨rv, ⟨V.ref (s.heap.objs.size + 1), H', I3, rfl, q3⟩⟩
    | next => exact False.elim hq'
    | brk => exact False.elim hq'
    | cont => exact False.elim hq'
theorem pe_mkS (M : Mk X.K C f) (F : FnOk X.prog X.w X.K X.mg X.base CX k f fd ps sp) (hr : Room (k + 1) X.A) (hg : Gl X x) (hm : X.mg x = some (.ref C)) (hb : Binds X.K fd ps ds) (hd : Vals dvs ds) (hx : ∀ σ, PassesAt CX X σ (E σ))
    (ha : PA X (e :: es) t) (hdb : (x == ("__debug__" : Str)) = false := by decide) (he : starEach (e :: es) X.env = (false, eval e X.env) :: starEach es X.env := by rfl) (hpl : (backTo pos (starEach es X.env)).any (·.1) = false := by rfl) :
    PE X (.Call (.Name x p) (e :: es) [] pos) (tMakeS C sp dvs E t) := by
  refine ⟨fun pins s σ H Q I h => ?_⟩
  refine wpAny_Call_Name_kw (ld_glob I hg hm ?_ hdb)
  refine PySem.W.callWith_K (h₀ := X.base) I.ok.mod.kin M.kp (thn (ha.run pos pins s σ H _ I h) fun us s1 ⟨vs, H1, I1, r, q⟩ => ⟨I1.kIn, ?_⟩) he hpl
  exact run_makeS M F hr hb hd hx I1 r q
end
/-! ### steps: statements -/
section
variable {σ : L2.St} {H H1 : Hp} {K : PySem.W.Frag} {D : Ends} {t u : TS} {te ta tb : TE} {c : TT} {i : Nat} {v x y : V} {Q : VK} {QB : Bool → Hp → Prop} {A B : Prop} {b : Bool}
theorem x_seq (h : t { D with nx := u D } σ H) : tSeq t u D σ H := h
theorem x_seqA {g : TG} (h : tAsg te g { D with nx := u D } σ H) : tSeq (tAsg te g) u D σ H := h
theorem x_seqD (h : tDrop te { D with nx := u D } σ H) : tSeq (tDrop te) u D σ H := h
theorem x_seqF {f : Str} (h : sFld K ta te f { D with nx := u D } σ H) : tSeq (sFld K ta te f) u D σ H := h
theorem x_seqFA {f : Str} {rd : V → V → Hp → VK → Prop} (h : sFldAug K ta te rd f { D with nx := u D } σ H) : tSeq (sFldAug K ta te rd f) u D σ H := h
theorem x_seqAug {ti : TIp} (h : tAug i te ti { D with nx := u D } σ H) : tSeq (tAug i te ti) u D σ H := h
theorem x_next (q : D.nx σ H) : tNext D σ H := q
theorem x_asg {g : TG} (h : te σ H fun x H1 => g x σ H1 D.nx) : tAsg te g D σ H := h
theorem x_gname {QS : L2.St → Hp → Prop} (q : QS (σ.set i (some v)) H) : gName i v σ H QS := q
theorem x_ret (h : te σ H D.rt) : tRet te D σ H := h
theorem x_retN (h : D.rt .non H) : tRetN D σ H := h
theorem x_drop (h : te σ H fun _ H1 => D.nx σ H1) : tDrop te D σ H := h
theorem x_if (h : c σ H fun b H1 => if b = true then t D σ H1 else u D σ H1) : tIfS c t u D σ H := h
theorem x_iteT (h : A) : if true = true then A else B := iteT h
theorem x_iteF (h : B) : if false = true then A else B := iteF h
theorem x_iteD {p : Prop} [Decidable p] (h1 : p → A) (h2 : ¬ p → B) : if decide p = true then A else B := by
  by_cases h : p
  · rw [decide_eq_true h]; exact iteT (h1 h)
  · rw [decide_eq_false h]; exact iteF (h2 h)
theorem x_iteN (h : if b = true then B else A) : if (!b) = true then A else B := by
  cases b with
  | true => exact h
  | false => exact h
/-- ways that join: J holds at the end of t on every way -/
theorem x_join (J : L2.St → Hp → Prop) (h1 : ∀ R : L2.St → Hp → Prop, (∀ σ' H', J σ' H' → R σ' H') → t { D with nx := R } σ H) (h2 : ∀ σ' H', J σ' H' → u D σ' H') : tSeq t u D σ H := h1 (u D) h2
/-! ### steps: expressions -/
theorem x_var (h : σ[i]? = some (some v)) (q : Q v H) : tVar i σ H Q := ⟨v, h, q⟩
theorem x_c (q : Q v H) : tC v σ H Q := q
theorem x_op {r : R2} (h : ta σ H fun x H1 => tb σ H1 fun y H2 => r x y H2 Q) : tOp r ta tb σ H Q := h
theorem x_un {r : V → Hp → VK → Prop} (h : ta σ H fun x H1 => r x H1 Q) : tUn r ta σ H Q := h
theorem x_cb {r : List V → Hp → VK → Prop} {t : TA} (h : t σ H fun vs H1 => r vs H1 Q) : tCB r t σ H Q := h
theorem x_nil {QA : List V → Hp → Prop} (q : QA [] H) : tNil σ H QA := q
theorem x_cons {QA : List V → Hp → Prop} {tr : TA} (h : ta σ H fun x H1 => tr σ H1 fun xs H2 => QA (x :: xs) H2) : tCons ta tr σ H QA := h
theorem x_callS {sp : Sp} {E : L2.St → XK} {t : TA} (h : t σ H fun vs H1 => sp vs H1 Q (E σ)) : tCallS sp E t σ H Q := h
theorem x_ifExp (h : c σ H fun c H1 => if c = true then ta σ H1 Q else tb σ H1 Q) : tIf c ta tb σ H Q := h
theorem x_test (h : te σ H fun x H' => ∃ k, x = .bl k ∧ QB k H') : tTest te σ H QB := h
theorem x_tB (h : te σ H fun x H' => ∃ k, x = .bl k ∧ QB k H') : tB te σ H QB := h
theorem x_and {t u : TT} (h : t σ H fun c H1 => if c = true then u σ H1 QB else QB false H1) : tAnd t u σ H QB := h
theorem x_or {t u : TT} (h : t σ H fun c H1 => if c = true then QB true H1 else u σ H1 QB) : tOr t u σ H QB := h
theorem x_not {t : TT} (h : t σ H fun c H1 => QB (!c) H1) : tNot t σ H QB := h
theorem x_andT (h : ta σ H fun x H1 => ∃ k, TruV K x H1 k ∧ if k = true then tb σ H1 Q else Q x H1) : tAndT K ta tb σ H Q := h
theorem x_orT (h : ta σ H fun x H1 => ∃ k, TruV K x H1 k ∧ if k = true then Q x H1 else tb σ H1 Q) : tOrT K ta tb σ H Q := h
theorem x_notT (h : ta σ H fun x H1 => ∃ k, TruV K x H1 k ∧ Q (.bl (!k)) H1) : tNotT K ta σ H Q := h
theorem x_truBl {P : Bool → Prop} (h : P b) : ∃ k, TruV K (.bl b) H k ∧ P k := ⟨b, rfl, h⟩
theorem x_isbl {P : Bool → Prop} (h : P b) : ∃ k, V.bl b = .bl k ∧ P k := ⟨b, rfl, h⟩
theorem x_chain {r r' : R2} {tc : TE} (h : ta σ H fun x H1 => tb σ H1 fun y H2 => r x y H2 fun z H3 => ∃ k, z = .bl k ∧ if k = true then tc σ H3 fun z' H4 => r' y z' H4 Q else Q (.bl false) H3) : tChain r r' ta tb tc σ H Q := h
/-! ### steps: operators on values -/
variable {m n : Int} {s1 s2 : Str}
theorem x_addI (q : Q (.int (m + n)) H) : uAdd K (.int m) (.int n) H Q := .inl ⟨m, n, rfl, rfl, q⟩
theorem x_addS (q : Q (.str (s1 ++ s2)) H) (h : s1.length + s2.length ≤ sizeLine) : uAdd K (.str s1) (.str s2) H Q := .inr (.inl ⟨s1, s2, rfl, rfl, h, q⟩)
theorem x_I0 {g : Int → Int → V} (q : Q (g m n) H) : rI0 g (.int m) (.int n) H Q := ⟨m, n, rfl, rfl, q⟩
theorem x_I {C : Int → Int → Prop} {g : Int → Int → V} (q : Q (g m n) H) (h : C m n) : rI C g (.int m) (.int n) H Q := ⟨m, n, rfl, rfl, h, q⟩
theorem x_pow {g : Int → Int → V} (q : Q (g m n) H) (h : CPow m n) : rI CPow g (.int m) (.int n) H Q := ⟨m, n, rfl, rfl, h, q⟩
theorem x_lt (q : Q (.bl (decide (m < n))) H) : uLt (.int m) (.int n) H Q := ⟨m, n, rfl, rfl, q⟩
theorem x_mulI (q : Q (.int (m * n)) H) (h : CMul m n) : uMul (.int m) (.int n) H Q := .inl ⟨m, n, rfl, rfl, h, q⟩
theorem x_mulU (q : Q (.int (m * n)) H) (h : m.natAbs < 2 ^ 250 ∧ n.natAbs < 2 ^ 250) : uMul (.int m) (.int n) H Q := .inr (.inr ⟨m, n, rfl, rfl, wide_mul h.1 h.2 (by decide) (by decide) (by decide), q⟩)
theorem same_upd {o : HO} {p : Addr} (h : H p = none) : Same H (upd H p o) := fun b u e => by rw [upd_ne (ne_of_none e h)]; exact e
theorem same_updS {H H' : Hp} {o : HO} {p : Addr} (s : Same H H') (h : H p = none) : Same H (upd H' p o) := fun b u e => by rw [upd_ne (ne_of_none e h)]; exact s _ _ e
theorem cutV_from {xs : List V} (k : Nat) : cutV xs (some (k : Int)) none = xs.drop k := by
  unfold cutV
  rw [HT.sIx_nat, HT.sIx_none]
  by_cases h : k ≤ xs.length
  · rw [Nat.min_eq_left h, List.take_of_length_le (by rw [List.length_drop]; exact Nat.le_refl _)]
  · rw [Nat.min_eq_right (by omega), List.drop_of_length_le (Nat.le_refl _), List.drop_of_length_le (by omega), List.take_nil]
/-- a new object: what is asked of it -/
abbrev New (H : Hp) (Q : VK) (o : HO) : Prop := ∀ p H1, H p = none → Same H H1 → H1 p = some o → Q (.ref p) H1
theorem New.mk {o : HO} (h : New H Q o) : ∀ p, H p = none → Q (.ref p) (upd H p o) := fun p hp => h p _ hp (same_upd hp) upd_same
def nwL (Q : VK) : List V → Hp → Prop := fun xs H1 => xs.length ≤ sizeLine ∧ ∀ p, H1 p = none → Q (.ref p) (upd H1 p (.lst xs))
def nwT (Q : VK) : List V → Hp → Prop := fun xs H1 => xs.length ≤ sizeLine ∧ ∀ p, H1 p = none → Q (.ref p) (upd H1 p (.tup xs))
theorem x_nwL {xs : List V} (h : New H Q (.lst xs)) (hl : xs.length ≤ sizeLine) : nwL Q xs H := ⟨hl, h.mk⟩
theorem x_nwT {xs : List V} (h : New H Q (.tup xs)) (hl : xs.length ≤ sizeLine) : nwT Q xs H := ⟨hl, h.mk⟩
theorem x_addL {l l' : Addr} {xs ys : List V} (h1 : H l = some (.lst xs)) (h2 : H l' = some (.lst ys)) (q : New H Q (.lst (xs ++ ys))) (hl : xs.length + ys.length ≤ sizeLine) : uAdd K (.ref l) (.ref l') H Q :=
  .inr (.inr (.inl ⟨l, l', xs, ys, rfl, rfl, h1, h2, hl, q.mk⟩))
theorem x_rep {l : Addr} {xs : List V} (h1 : H l = some (.lst xs)) (q : New H Q (.lst (List.replicate n.toNat xs).flatten)) (h2 : n < 2 ^ 63) (h0 : 0 ≤ n) (hl : xs.length * n.toNat ≤ sizeLine) : uMul (.ref l) (.int n) H Q :=
  .inr (.inl ⟨l, n, xs, rfl, rfl, h1, Int.le_trans (by decide) h0, h2, hl, q.mk⟩)
theorem flat_rep {v : V} : ∀ n : Nat, (List.replicate n [v]).flatten = List.replicate n v
  | 0 => rfl
  | n + 1 => by rw [List.replicate_succ, List.flatten_cons, flat_rep n]; rfl
/-- [v] * n -/
theorem x_rep1 {l : Addr} {v : V} (h1 : H l = some (.lst [v])) (q : New H Q (.lst (List.replicate n.toNat v))) (h : 0 ≤ n ∧ n ≤ 1000000) : uMul (.ref l) (.int n) H Q :=
  x_rep h1 (by rw [flat_rep]; exact q) (by omega) h.1 (by rw [List.length_singleton, Nat.one_mul]; exact Nat.le_trans (show n.toNat ≤ 1000000 by omega) (by decide))
theorem cdivW {i j : Int} (h : 0 < j) (h2 : j < 10 ^ 60) : CDivW i j := by
  refine wide_div (b := 200) h ?_ (by decide) (by decide)
  have : (2:Nat) ^ 200 = 1606938044258990275541962092341162602522202993782792835301376 := by decide
  omega
theorem x_shl (q : Q (.int (m * 2 ^ n.toNat)) H) (h : CShl m n) : uShl (.int m) (.int n) H Q := ⟨m, n, rfl, rfl, h, q⟩
theorem x_U {g : Int → V} (q : Q (g m) H) : rU g (.int m) H Q := ⟨m, rfl, q⟩
theorem x_eqI (q : Q (.bl (decide (m = n))) H) : uEq K (.int m) (.int n) H Q := .inl ⟨rfl, by rw [dec_int, ← Bool.beq_eq_decide_eq] at *; exact q⟩
theorem x_neI (q : Q (.bl (!decide (m = n))) H) : uNe K (.int m) (.int n) H Q := .inl ⟨rfl, by rw [dec_int, ← Bool.beq_eq_decide_eq] at *; exact q⟩
theorem x_eqB {b c : Bool} (q : Q (.bl (decide (b = c))) H) : uEq K (.bl b) (.bl c) H Q := .inl ⟨rfl, by rw [dec_bl, ← Bool.beq_eq_decide_eq] at *; exact q⟩
theorem x_neB {b c : Bool} (q : Q (.bl (!decide (b = c))) H) : uNe K (.bl b) (.bl c) H Q := .inl ⟨rfl, by rw [dec_bl, ← Bool.beq_eq_decide_eq] at *; exact q⟩
theorem x_eqS (q : Q (.bl (decide (s1 = s2))) H) : uEq K (.str s1) (.str s2) H Q := .inl ⟨rfl, by rw [dec_str] at *; rw [show decide (s1 = s2) = (s1 == s2) from by rw [Bool.beq_eq_decide_eq]] at q; exact q⟩
theorem x_tup {t : TA} (h : t σ H (nwT Q)) : tTup t σ H Q := h
theorem x_lst {t : TA} (h : t σ H (nwL Q)) : tLst t σ H Q := h
/-! ### steps: sequences -/
variable {p : Addr} {xs : List V} {ns : List Int}
theorem atI_getD {α : Type} {xs : List α} {i : Int} (d : α) (h0 : 0 ≤ i) (h1 : i < xs.length) : atI xs i = some (xs.getD i.toNat d) := by
  obtain ⟨j, rfl⟩ : ∃ j : Nat, i = (j : Int) := ⟨i.toNat, by omega⟩
  have hj : j < xs.length := by omega
  exact atI_nat (by simp [hj])
theorem x_ixI (h : SqL K H p (ns.map V.int)) (q : Q (.int (ns.getD n.toNat 0)) H) (h0 : 0 ≤ n) (h1 : n < ns.length) : rIx K (.ref p) (.int n) H Q :=
  .inl ⟨p, _, n, _, rfl, rfl, h, by
    rw [atI_getD (.int 0) h0 (by rw [List.length_map]; exact h1)]
    have hn : n.toNat < ns.length := by omega
    simp [hn], q⟩
theorem x_ixS (h : SqL K H p xs) (ha : atI xs n = some v) (q : Q v H) : rIx K (.ref p) (.int n) H Q := .inl ⟨p, _, n, _, rfl, rfl, h, ha, q⟩
theorem atI_0 {α : Type} {x : α} {xs : List α} : atI (x :: xs) 0 = some x := atI_nat (j := 0) (by simp)
theorem x_ixH (h : SqL K H p (v :: xs)) (q : Q v H) : rIx K (.ref p) (.int 0) H Q := .inl ⟨p, _, 0, _, rfl, rfl, h, atI_0, q⟩
theorem x_ixL (h : SqL K H p xs) (q : Q (xs.getD n.toNat .non) H) (h0 : 0 ≤ n) (h1 : n < xs.length) : rIx K (.ref p) (.int n) H Q :=
  .inl ⟨p, _, n, _, rfl, rfl, h, atI_getD _ h0 h1, q⟩
theorem x_ixT (h : SqT K H p xs) (ha : atI xs n = some v) (q : Q v H) : rIx K (.ref p) (.int n) H Q :=
  .inr (.inl ⟨p, _, n, _, rfl, rfl, h, ha, q⟩)
end
/-! ### data -/
section
variable {X : Cx} {σ : L2.St} {H H' : Hp} {K : PySem.W.Frag} {Q : VK} {x y : V}
theorem cl_all : ∀ ds : List PyData, PyData.canLayAll0 ds = true ↔ ∀ d ∈ ds, PyData.canLay0 d = true
  | [] => by simp [PyData.canLayAll0]
  | d :: ds => by rw [PyData.canLayAll0, Bool.and_eq_true, cl_all ds]; simp
theorem dp_all {k : Nat} : ∀ ds : List PyData, PyData.depthAll ds ≤ k ↔ ∀ d ∈ ds, PyData.depth d ≤ k
  | [] => by simp [PyData.depthAll]
  | d :: ds => by rw [PyData.depthAll, Nat.max_le, dp_all ds]; simp
/-- data of a depth that can be compared -/
def Sh (k : Nat) (d : PyData) : Prop := d.canLay0 = true ∧ d.depth ≤ k
theorem Sh.list {k : Nat} {ds : List PyData} (h : ∀ d ∈ ds, Sh k d) : Sh (k + 1) (.list ds) := ⟨by rw [PyData.canLay0]; exact (cl_all ds).mpr fun d m => (h d m).1, by rw [PyData.depth]; exact Nat.succ_le_succ ((dp_all ds).mpr fun d m => (h d m).2)⟩
theorem Sh.tup {k : Nat} {ds : List PyData} (h : ∀ d ∈ ds, Sh k d) : Sh (k + 1) (.tuple ds) := ⟨by rw [PyData.canLay0]; exact (cl_all ds).mpr fun d m => (h d m).1, by rw [PyData.depth]; exact Nat.succ_le_succ ((dp_all ds).mpr fun d m => (h d m).2)⟩
theorem Sh.int {k : Nat} {n : Int} : Sh k (.int n) := ⟨by simp [PyData.canLay0], by simp [PyData.depth]⟩
theorem Sh.non {k : Nat} : Sh k .none := ⟨by simp [PyData.canLay0], by simp [PyData.depth]⟩
theorem Sh.bl {k : Nat} {b : Bool} : Sh k (.bool b) := ⟨by simp [PyData.canLay0], by simp [PyData.depth]⟩
theorem Sh.str {k : Nat} {s : Str} (h : PyData.strOk s = true) : Sh k (.str s) := ⟨by rw [PyData.canLay0]; exact h, by simp [PyData.depth]⟩
theorem Sh.shaped {k : Nat} {d : PyData} (h : Sh k d) (hk : k ≤ 64) : SeqAt.shaped d = true := by
  unfold SeqAt.shaped
  rw [h.1, decide_eq_true (Nat.le_trans h.2 hk)]
  rfl
theorem Sh.refl {k : Nat} {d : PyData} (h : Sh k d) : PyData.eqv d d = true := SeqAt.eqv_refl d h.1
theorem x_eqD {d e : PyData} (h1 : Dp K H x d) (h2 : Dp K H y e) (s1 : Sh 9 d) (s2 : Sh 9 e) (q : Q (.bl (PyData.eqv d e)) H) : uEq K x y H Q := .inr ⟨d, e, h1, h2, s1.shaped (by decide), s2.shaped (by decide), q⟩
theorem dpAll_of : ∀ {vs : List V} {ds : List PyData}, vs.length = ds.length → (∀ (i : Nat) v d, vs[i]? = some v → ds[i]? = some d → Dp K H v d) → DpAll K H vs ds
  | [], [], _, _ => .nil
  | v :: vs, d :: ds, hl, h => .cons (h 0 v d rfl rfl) (dpAll_of (by simpa using hl) fun i a b h1 h2 => h (i + 1) a b h1 h2)
theorem dpInts : ∀ {ns : List Int}, DpAll K H (ns.map V.int) (ns.map PyData.int)
  | [] => .nil
  | n :: ns => .cons (.int n) dpInts
end
/-! ### loops -/
section
variable {X : Cx} {σ : L2.St} {H : Hp} {K : PySem.W.Frag} {D : Ends} {g : TG} {tb : TS} {tl te : TE} {tt : TT} {ta : TA} {a : Addr} {xs : List V} {Q : VK} {vs : List Nat}
theorem sl_u : SlR X (rSlL X.K) := sl_list
theorem x_slice {to th : TO} {r : V → Option Int → Option Int → Hp → VK → Prop} (h : te σ H fun x H1 => to σ H1 fun l H2 => th σ H2 fun u H3 => r x l u H3 Q) : tSl r te to th σ H Q := h
theorem x_noPart {QO : Option Int → Hp → Prop} (q : QO none H) : tNoPart σ H QO := q
def ptK (QO : Option Int → Hp → Prop) : V → Hp → Prop := fun x H1 => ∃ i, x = .int i ∧ QO (some i) H1
theorem x_part {QO : Option Int → Hp → Prop} (h : te σ H (ptK QO)) : tPart te σ H QO := h
theorem x_ptK {QO : Option Int → Hp → Prop} {i : Int} (q : QO (some i) H) : ptK QO (.int i) H := ⟨i, rfl, q⟩
theorem x_slL {lo hi : Option Int} (h : SqL K H a xs) (q : New H Q (.lst (cutV xs lo hi))) : rSlL K (.ref a) lo hi H Q := ⟨a, xs, rfl, h, q.mk⟩
def loopK (J : It) (g : TG) (tb : TS) (D : Ends) (σ : L2.St) (H1 : Hp) : Prop := ∃ W : Nat → Nat → L2.St → Hp → Prop, (∃ m, W 0 m σ H1) ∧ ∀ i m σ H, W i m σ H →
  (J.stop i H ∧ D.nx σ H) ∨ (J.go i H ∧ ∃ N : L2.St → Hp → Prop, (∀ σ' H', N σ' H' → ∃ m', m' < m ∧ W (i + 1) m' σ' H') ∧ ∀ x H', J.yld i H x H' → g x σ H' fun σ2 H2 => tb { D with nx := N, ct := N, bk := D.nx } σ2 H2)
def frL (K : PySem.W.Frag) (g : TG) (tb : TS) (D : Ends) (σ : L2.St) : V → Hp → Prop := fun x H1 => ∃ a, x = .ref a ∧ (∃ xs, SqL K H1 a xs) ∧ loopK (Itl K a) g tb D σ H1
theorem x_forL (h : tl σ H (frL K g tb D σ)) : tFor (iList K tl) g tb D σ H := h
theorem x_frL (hq : SqL K H a xs) (Pv : Nat → L2.St → Hp → Prop) (h0 : Pv 0 σ H) (hl : ∀ i σ H, i ≤ xs.length → Pv i σ H → SqL K H a xs)
    (hs : ∀ i x σ H, xs[i]? = some x → Pv i σ H → g x σ H fun σ2 H2 => tb { D with nx := Pv (i + 1), ct := Pv (i + 1), bk := D.nx } σ2 H2) (hd : ∀ σ H, Pv xs.length σ H → D.nx σ H) : frL K g tb D σ (.ref a) H :=
  ⟨a, rfl, ⟨_, hq⟩, for_list Pv h0 hl hs hd⟩
def frT (K : PySem.W.Frag) (g : TG) (tb : TS) (D : Ends) (σ : L2.St) : V → Hp → Prop := fun x H1 => ∃ a, x = .ref a ∧ (∃ xs, SqT K H1 a xs) ∧ loopK (Itt K a) g tb D σ H1
theorem x_forT (h : tl σ H (frT K g tb D σ)) : tFor (iTup K tl) g tb D σ H := h
/-! a loop over a list or a tuple -/
def iSeq (K : PySem.W.Frag) (tl : TE) : TI := fun σ H R => tl σ H fun x H1 => ∃ a, x = .ref a ∧ (((∃ xs, SqL K H1 a xs) ∧ R (Itl K a) H1) ∨ ((∃ xs, SqT K H1 a xs) ∧ R (Itt K a) H1))
def frS (K : PySem.W.Frag) (g : TG) (tb : TS) (D : Ends) (σ : L2.St) : V → Hp → Prop := fun x H1 => ∃ a, x = .ref a ∧ (((∃ xs, SqL K H1 a xs) ∧ loopK (Itl K a) g tb D σ H1) ∨ ((∃ xs, SqT K H1 a xs) ∧ loopK (Itt K a) g tb D σ H1))
theorem x_forS (h : tl σ H (frS K g tb D σ)) : tFor (iSeq K tl) g tb D σ H := h
def frR1 (g : TG) (tb : TS) (D : Ends) (σ : L2.St) : List V → Hp → Prop := fun vs H1 => ∃ j : Int, vs = [.int j] ∧ -(2 ^ 62) ≤ j ∧ j < 2 ^ 62 ∧ loopK (Itr 0 j.toNat) g tb D σ H1
theorem x_forR1 (h : ta σ H (frR1 g tb D σ)) : tFor (iRng1 ta) g tb D σ H := h
theorem x_frR1 {j : Int} (b : -(2 ^ 62) ≤ j ∧ j < 2 ^ 62) (Pv : Nat → L2.St → Hp → Prop) (h0 : Pv 0 σ H)
    (hs : ∀ i σ H, i < j.toNat → Pv i σ H → g (.int (0 + i)) σ H fun σ2 H2 => tb { D with nx := Pv (i + 1), ct := Pv (i + 1), bk := D.nx } σ2 H2) (hd : ∀ σ H, Pv j.toNat σ H → D.nx σ H) : frR1 g tb D σ [.int j] H :=
  ⟨j, rfl, b.1, b.2, for_range Pv h0 hs hd⟩
def frR2 (g : TG) (tb : TS) (D : Ends) (σ : L2.St) : List V → Hp → Prop := fun vs H1 => ∃ i j : Int, vs = [.int i, .int j] ∧ (-(2 ^ 62) ≤ i ∧ i < 2 ^ 62 ∧ -(2 ^ 62) ≤ j ∧ j < 2 ^ 62) ∧ loopK (Itr i (j - i).toNat) g tb D σ H1
theorem x_forR2 (h : ta σ H (frR2 g tb D σ)) : tFor (iRng2 ta) g tb D σ H := h
theorem x_gtup2 {i j : Nat} {QS : L2.St → Hp → Prop} {x y : V} (h : SqT K H a [x, y]) (q : QS ((σ.set i (some x)).set j (some y)) H) : gTup K 2 (gCons (gName i) (gCons (gName j) gNil)) (.ref a) σ H QS :=
  ⟨a, [x, y], rfl, h, rfl, x, [y], rfl, y, [], rfl, rfl, q⟩
theorem x_glst4 {i j k l : Nat} {QS : L2.St → Hp → Prop} {x y z u : V} (h : SqL K H a [x, y, z, u]) (q : QS ((((σ.set i (some x)).set j (some y)).set k (some z)).set l (some u)) H) : gLst K 4 (gCons (gName i) (gCons (gName j) (gCons (gName k) (gCons (gName l) gNil)))) (.ref a) σ H QS :=
  ⟨a, [x, y, z, u], rfl, h, rfl, x, [y, z, u], rfl, y, [z, u], rfl, z, [u], rfl, u, [], rfl, rfl, q⟩
def frEn (K : PySem.W.Frag) (g : TG) (tb : TS) (D : Ends) (σ : L2.St) : List V → Hp → Prop := fun vs H1 => ∃ a xs, vs = [.ref a] ∧ SqL K H1 a xs ∧ loopK (Ite K a) g tb D σ H1
theorem x_forEn (h : ta σ H (frEn K g tb D σ)) : tFor (iEnum K ta) g tb D σ H := h
theorem x_frEn {n1 n2 : Nat} (hq : SqL K H a xs) (Pv : Nat → L2.St → Hp → Prop) (h0 : Pv 0 σ H) (hl : ∀ i σ H, i ≤ xs.length → Pv i σ H → SqL K H a xs)
    (hs : ∀ i x σ H H', xs[i]? = some x → Pv i σ H → Same H H' → tb { D with nx := Pv (i + 1), ct := Pv (i + 1), bk := D.nx } ((σ.set n1 (some (.int (i : Nat)))).set n2 (some x)) H') (hd : ∀ σ H, Pv xs.length σ H → D.nx σ H) :
    frEn K (gTup K 2 (gCons (gName n1) (gCons (gName n2) gNil))) tb D σ [.ref a] H := by
  refine ⟨a, xs, rfl, hq, fun i m σ H => m = xs.length - i ∧ i ≤ xs.length ∧ Pv i σ H, ⟨xs.length, rfl, Nat.zero_le _, h0⟩, ?_⟩
  rintro i m σ H ⟨rfl, hi, p⟩
  have q := hl i σ H hi p
  by_cases hlt : i < xs.length
  · refine .inr ⟨⟨xs, _, q, List.getElem?_eq_getElem hlt⟩, Pv (i + 1), fun σ' H' p' => ⟨xs.length - (i + 1), by omega, rfl, hlt, p'⟩, fun v H' y => ?_⟩
    obtain ⟨T, x, rfl, hT, rfl, f1⟩ := y
    exact x_gtup2 (SqT.of upd_same) (hs i x σ H _ (f1 xs q) p (same_upd hT))
  · have e : i = xs.length := by omega
    subst e
    exact .inl ⟨⟨xs, q, Nat.le_refl _⟩, hd σ H p⟩
def frZ (K : PySem.W.Frag) (g : TG) (tb : TS) (D : Ends) (σ : L2.St) : List V → Hp → Prop := fun vs H1 => ∃ a b xs ys, vs = [.ref a, .ref b] ∧ SqL K H1 a xs ∧ SqL K H1 b ys ∧ loopK (Itz K a b) g tb D σ H1
theorem x_forZ (h : ta σ H (frZ K g tb D σ)) : tFor (iZip K ta) g tb D σ H := h
/-! comprehensions -/
/-- tuples stay -/
def TupS (H H' : Hp) : Prop := ∀ a xs, H a = some (.tup xs) → H' a = some (.tup xs)
theorem TupS.of {H H' : Hp} (h : Same H H') : TupS H H' := fun a xs e => h a _ e
theorem TupS.trans {H H1 H2 : Hp} (a : TupS H H1) (b : TupS H1 H2) : TupS H H2 := fun c o h => b c o (a c o h)
theorem TupS.upd {H : Hp} {p : Addr} {o o' : HO} (h : H p = some o) (ho : ∀ xs, o ≠ .tup xs) : TupS H (upd H p o') := fun a xs e => by
  rw [upd_ne (ne_of e h (fun z => ho xs z.symm))]; exact e
def lcK (J : It) (g : TG) (tt : TT) (te : TE) (vs : List Nat) (σ : L2.St) (Q : VK) (H1 : Hp) : Prop := ∀ D, H1 D = none → ∃ W : Nat → Nat → Hp → Prop, (∃ m, W 0 m (upd H1 D (.lst []))) ∧ ∀ i m H, W i m H →
  (J.stop i H ∧ Q (.ref D) H) ∨ (J.go i H ∧ ∃ Nx : Hp → Prop, (∀ H', Nx H' → ∃ m', m' < m ∧ W (i + 1) m' H') ∧ ∀ x H', J.yld i H x H' → g x (wipe σ vs) H' fun σ2 H2 => wipe σ2 vs = wipe σ vs ∧ tt σ2 H2 fun b H3 =>
    if b = true then te σ2 H3 fun y H4 => ∃ acc, H4 D = some (.lst acc) ∧ acc.length < sizeLine ∧ Nx (upd H4 D (.lst (acc ++ [y]))) else Nx H3)
def lcL (K : PySem.W.Frag) (g : TG) (tt : TT) (te : TE) (vs : List Nat) (σ : L2.St) (Q : VK) : V → Hp → Prop := fun x H1 => ∃ a, x = .ref a ∧ (∃ xs, SqL K H1 a xs) ∧ lcK (Itl K a) g tt te vs σ Q H1
theorem x_lcL (h : tl σ H (lcL K g tt te vs σ Q)) : tLc (iList K tl) g tt te vs σ H Q := h
/-- what a turn of a comprehension asks -/
def LcTurn (g : TG) (tt : TT) (te : TE) (vs : List Nat) (σ : L2.St) (A : Nat → List V → Hp → Prop) (i : Nat) (x : V) (acc : List V) (H' : Hp) : Prop :=
  ∀ (NY : VK) (NN : Hp → Prop), (∀ y H4, Same H' H4 → A (i + 1) (acc ++ [y]) H4 → NY y H4) → (∀ H3, Same H' H3 → A (i + 1) acc H3 → NN H3) →
    g x (wipe σ vs) H' fun σ2 H2 => wipe σ2 vs = wipe σ vs ∧ tt σ2 H2 fun b H3 => if b = true then te σ2 H3 NY else NN H3
theorem lc_gen {n : Nat} {J : It} (Y : Nat → V → Prop) (A : Nat → List V → Hp → Prop) (hA : ∀ i acc H H', TupS H H' → A i acc H → A i acc H') (hn : n < sizeLine) (h0 : A 0 [] H)
    (hJ : ∀ (Pv : Nat → Hp → Prop) (Dr : Addr), (∀ i H', Pv i H' → Same H H') → Pv 0 (upd H Dr (.lst [])) →
      (∀ i x H', Y i x → Pv i H' → g x (wipe σ vs) H' fun σ2 H2 => wipe σ2 vs = wipe σ vs ∧ tt σ2 H2 fun b H3 =>
        if b = true then te σ2 H3 fun y H4 => ∃ acc, H4 Dr = some (.lst acc) ∧ acc.length < sizeLine ∧ Pv (i + 1) (upd H4 Dr (.lst (acc ++ [y]))) else Pv (i + 1) H3) →
      (∀ H', Pv n H' → Q (.ref Dr) H') → ∃ W : Nat → Nat → Hp → Prop, (∃ m, W 0 m (upd H Dr (.lst []))) ∧ ∀ i m H, W i m H →
        (J.stop i H ∧ Q (.ref Dr) H) ∨ (J.go i H ∧ ∃ Nx : Hp → Prop, (∀ H', Nx H' → ∃ m', m' < m ∧ W (i + 1) m' H') ∧ ∀ x H', J.yld i H x H' → g x (wipe σ vs) H' fun σ2 H2 => wipe σ2 vs = wipe σ vs ∧ tt σ2 H2 fun b H3 =>
          if b = true then te σ2 H3 fun y H4 => ∃ acc, H4 Dr = some (.lst acc) ∧ acc.length < sizeLine ∧ Nx (upd H4 Dr (.lst (acc ++ [y]))) else Nx H3))
    (hs : ∀ i x acc H', Y i x → Same H H' → A i acc H' → LcTurn g tt te vs σ A i x acc H')
    (hY : ∀ i x, Y i x → i < n) (hd : ∀ p acc H', H p = none → Same H H' → H' p = some (.lst acc) → A n acc H' → Q (.ref p) H') : lcK J g tt te vs σ Q H := by
  intro Dr hD
  refine hJ (fun i H' => ∃ acc, H' Dr = some (.lst acc) ∧ acc.length ≤ i ∧ Same H H' ∧ A i acc H') Dr (fun i H' ⟨_, _, _, s, _⟩ => s) ⟨[], upd_same, Nat.le_refl _, same_upd hD, hA _ _ _ _ (TupS.of (same_upd hD)) h0⟩ ?_ ?_
  · rintro i x H' hy ⟨acc, h1, h2, h3, h4⟩
    have hi := hY i x hy
    refine hs i x acc H' hy h3 h4 _ _ (fun y H4 s4 a4 => ?_) (fun H3 s3 a3 => ⟨acc, s3 _ _ h1, Nat.le_succ_of_le h2, h3.trans s3, a3⟩)
    have e4 := s4 _ _ h1
    refine ⟨acc, e4, by omega, acc ++ [y], upd_same, by rw [List.length_append]; exact Nat.add_le_add h2 (Nat.le_refl _), fun b o e => ?_, hA _ _ _ _ (TupS.upd e4 (fun _ z => by cases z)) a4⟩
    rw [upd_ne (ne_of_none e hD)]
    exact s4 _ _ (h3 _ _ e)
  · rintro H' ⟨acc, h1, h2, h3, h4⟩
    exact hd Dr acc H' hD h3 h1 h4
theorem x_lcLK (hq : SqL K H a xs) (A : Nat → List V → Hp → Prop) (hA : ∀ i acc H H', TupS H H' → A i acc H → A i acc H') (hn : xs.length < sizeLine) (h0 : A 0 [] H)
    (hs : ∀ i x acc H', xs[i]? = some x → Same H H' → A i acc H' → LcTurn g tt te vs σ A i x acc H')
    (hd : ∀ p acc H', H p = none → Same H H' → H' p = some (.lst acc) → A xs.length acc H' → Q (.ref p) H') : lcL K g tt te vs σ Q (.ref a) H :=
  ⟨a, rfl, ⟨_, hq⟩, lc_gen (fun i x => xs[i]? = some x) A hA hn h0 (fun Pv Dr hP p0 ht hd => lc_list (K := K) (a := a) (xs := xs) Pv p0 (fun i H' _ p => (hP i H' p).seq hq) ht hd) hs (fun i x h => (List.getElem?_eq_some_iff.mp h).1) hd⟩
def lcR1 (g : TG) (tt : TT) (te : TE) (vs : List Nat) (σ : L2.St) (Q : VK) : List V → Hp → Prop := fun ws H1 => ∃ j : Int, ws = [.int j] ∧ -(2 ^ 62) ≤ j ∧ j < 2 ^ 62 ∧ lcK (Itr 0 j.toNat) g tt te vs σ Q H1
theorem x_lcR1 (h : ta σ H (lcR1 g tt te vs σ Q)) : tLc (iRng1 ta) g tt te vs σ H Q := h
theorem x_lcR1K {j : Int} (A : Nat → List V → Hp → Prop) (hA : ∀ i acc H H', TupS H H' → A i acc H → A i acc H') (hn : 0 ≤ j ∧ j < 1000000) (h0 : A 0 [] H)
    (hs : ∀ i acc H', i < j.toNat → Same H H' → A i acc H' → LcTurn g tt te vs σ A i (.int i) acc H')
    (hd : ∀ p acc H', H p = none → Same H H' → H' p = some (.lst acc) → A j.toNat acc H' → Q (.ref p) H') : lcR1 g tt te vs σ Q [.int j] H :=
  ⟨j, rfl, by omega, by omega, lc_gen (fun i x => i < j.toNat ∧ x = .int i) A hA (Nat.lt_of_lt_of_le (by omega : j.toNat < 1000000) (by decide)) h0
    (fun Pv Dr hP p0 ht hd => lc_range Pv p0 (fun i H' hi p => ht i _ H' ⟨hi, by rw [Int.zero_add]⟩ p) hd) (fun i x acc H' h s a => by rw [h.2]; exact hs i acc H' h.1 s a) (fun i x h => h.1) hd⟩
def lcR2 (g : TG) (tt : TT) (te : TE) (vs : List Nat) (σ : L2.St) (Q : VK) : List V → Hp → Prop := fun ws H1 => ∃ i j : Int, ws = [.int i, .int j] ∧ (-(2 ^ 62) ≤ i ∧ i < 2 ^ 62 ∧ -(2 ^ 62) ≤ j ∧ j < 2 ^ 62) ∧ lcK (Itr i (j - i).toNat) g tt te vs σ Q H1
theorem x_lcR2 (h : ta σ H (lcR2 g tt te vs σ Q)) : tLc (iRng2 ta) g tt te vs σ H Q := h
theorem x_yes {QB : Bool → Hp → Prop} (q : QB true H) : tYes σ H QB := q
/-! methods of built-in types -/
def bmK (K : PySem.W.Frag) (T : String) (r : V → List V → Hp → VK → Prop) (t : TA) (σ : L2.St) (Q : VK) : V → Hp → Prop := fun x H1 => tyV K T x H1 ∧ t σ H1 fun xs H2 => r x xs H2 Q
theorem x_bm {T : String} {r : V → List V → Hp → VK → Prop} {t : TA} (h : te σ H (bmK K T r t σ Q)) : tBM K T r te t σ H Q := h
theorem x_bmL {r : V → List V → Hp → VK → Prop} {t : TA} (hq : SqL K H a xs) (h : t σ H fun ws H2 => r (.ref a) ws H2 Q) : bmK K "list" r t σ Q (.ref a) H := ⟨.inl ⟨rfl, _, hq⟩, h⟩
def bm0K (K : PySem.W.Frag) (T : String) (r : V → List V → Hp → VK → Prop) (Q : VK) : V → Hp → Prop := fun x H1 => tyV K T x H1 ∧ r x [] H1 Q
theorem x_bm0 {T : String} {r : V → List V → Hp → VK → Prop} (h : te σ H (bm0K K T r Q)) : tBM0 K T r te σ H Q := h
theorem x_bm0L {r : V → List V → Hp → VK → Prop} (hq : SqL K H a xs) (h : r (.ref a) [] H Q) : bm0K K "list" r Q (.ref a) H := ⟨.inl ⟨rfl, _, hq⟩, h⟩
theorem x_append {y : V} (h : H a = some (.lst xs)) (q : Q .non (upd H a (.lst (xs ++ [y])))) (hl : xs.length < sizeLine) : rAppend (.ref a) [y] H Q := ⟨a, xs, y, rfl, rfl, h, hl, q⟩
theorem x_clear (h : H a = some (.lst xs)) (q : Q .non (upd H a (.lst []))) : rClear (.ref a) [] H Q := ⟨a, xs, rfl, rfl, h, q⟩
/-! objects -/
theorem x_mk0 {C : Addr} (h : ∀ x dx H1, H x = none → H dx = none → dx ≠ x → Same H H1 → H1 x = some (.ins C dx []) → H1 dx = some (.own x) → Q (.ref x) H1) : tMake0 C σ H Q := fun x dx n nd ne =>
  h x dx _ n nd ne ((same_upd nd).trans (same_upd (by rw [upd_ne (Ne.symm ne)]; exact n))) upd_same (by rw [upd_ne ne, upd_same])
def mkK (C : Addr) (sp : Sp) (dvs : List V) (Q : VK) (E : XK) : List V → Hp → Prop := fun vs H1 => ∀ x dx, H1 x = none → H1 dx = none → dx ≠ x →
  sp (.ref x :: (vs ++ dvs)) (upd (upd H1 dx (.own x)) x (.ins C dx [])) (fun v H2 => v = .non ∧ Q (.ref x) H2) E
theorem x_mkS {C : Addr} {sp : Sp} {dvs : List V} {E : L2.St → XK} {t : TA} (h : t σ H (mkK C sp dvs Q (E σ))) : tMakeS C sp dvs E t σ H Q := h
theorem x_mkK {C : Addr} {sp : Sp} {dvs ws : List V} {E : XK} (h : ∀ x dx H1, H x = none → H dx = none → dx ≠ x → Same H H1 → H1 x = some (.ins C dx []) → H1 dx = some (.own x) → sp (.ref x :: (ws ++ dvs)) H1 (fun v H2 => v = .non ∧ Q (.ref x) H2) E) :
    mkK C sp dvs Q E ws H := fun x dx n nd ne => h x dx _ n nd ne ((same_upd nd).trans (same_upd (by rw [upd_ne (Ne.symm ne)]; exact n))) upd_same (by rw [upd_ne ne, upd_same])
theorem x_methD {P : Program} {w : World} {mg : Str → Option Value} {base : Heap} {CX : CXT} {n : Nat} {m : Str} {E : L2.St → XK} {t : TA} (h : te σ H (mtK P w K mg base CX n m (E σ) σ t Q)) : tMethD P w K mg base CX n m E te t σ H Q := h
theorem x_mtK {P : Program} {w : World} {mg : Str → Option Value} {base : Heap} {CX : CXT} {n : Nat} {m : Str} {E : XK} {t : TA} {C dx : Addr} {fs : List (Str × V)} {sp : Sp} (ho : H a = some (.ins C dx fs)) (hm : MO P w K mg base CX n C m sp) (hl : fs.lookup m = none)
    (h : t σ H fun vs H2 => sp (.ref a :: vs) H2 Q E) : mtK P w K mg base CX n m E σ t Q (.ref a) H := ⟨a, C, dx, fs, sp, rfl, ho, hl, hm, h⟩
def fldK (K : PySem.W.Frag) (f : Str) (Q : VK) : V → Hp → Prop := fun x H1 => ∃ a C dx fs v, x = .ref a ∧ H1 a = some (.ins C dx fs) ∧ Cls K C ∧ NoAttr K C f ∧ fs.lookup f = some v ∧ Q v H1
theorem x_fld {f : Str} (h : te σ H (fldK K f Q)) : tFld K te f σ H Q := h
theorem x_fldK {f : Str} {C dx : Addr} {fs : List (Str × V)} {v : V} (ho : H a = some (.ins C dx fs)) (hl : fs.lookup f = some v) (q : Q v H) (hc : Cls K C) (hn : NoAttr K C f) : fldK K f Q (.ref a) H := ⟨a, C, dx, fs, v, rfl, ho, hc, hn, hl, q⟩
def sfK (K : PySem.W.Frag) (f : Str) (y : V) (D : Ends) (σ : L2.St) : V → Hp → Prop := fun x H2 => ∃ a C dx fs, x = .ref a ∧ H2 a = some (.ins C dx fs) ∧ Cls K C ∧ NoAttr K C f ∧ fs.length < 1000 ∧ D.nx σ (upd H2 a (.ins C dx (putF f y fs)))
theorem x_sfld {f : Str} (h : te σ H fun y H1 => tl σ H1 (sfK K f y D σ)) : sFld K tl te f D σ H := h
end
theorem _root_.L2.FunD.okX {P : Program} {w : World} {K : PySem.W.Frag} {mg : Str → Option Value} {base : Heap} {x qual : Str} {st : Stmt} {f : Addr} {fd : FuncData} {dvs : List V} {kws : List (Str × V)} {N ps : List Str} {k : Nat} {sp : Sp}
    (F : FunD K x qual (defArgs st) (defBody st) (defScope st) dvs kws f fd) (S : FnScope N ps (defScope st)) (len : ∀ vs H Q E, sp vs H Q E → vs.length = ps.length)
    (hbody : ∀ (cdv : Value) (A : Around) (outer : List Env) (s : Shared) (H : Hp) (vs : List V) (Q : VK) (E : XK), Room k (A.deeper (envOfC qual (defScope st) s.heap.objs.size f cdv)) → sp vs H Q E →
      ∃ t, PSs (cxOf (L2.CX P w) P w K mg base N qual (defScope st) f cdv A outer s H E) (defBody st) t ∧ t { nx := fun _ H' => Q .non H', rt := Q } (start N vs) H) : FnOk P w K mg base (L2.CX P w) (k + 1) f fd ps sp := F.ok S len hbody
/-! ### fields added to, while, is, in -/
section
variable {σ : L2.St} {H : Hp} {K : PySem.W.Frag} {D : Ends} {ta tv te : TE} {tb : TS} {tc : TT} {a : Addr} {Q : VK} {x y : V} {f : Str} {rd : V → V → Hp → VK → Prop}
/-- all but what stands at S stays -/
def Off (S : List Addr) (H H' : Hp) : Prop := ∀ b o, b ∉ S → H b = some o → H' b = some o
theorem Off.refl {S : List Addr} : Off S H H := fun _ _ _ h => h
theorem Off.of {S : List Addr} {H' : Hp} (s : Same H H') : Off S H H' := fun b o _ h => s b o h
theorem Off.trans {S : List Addr} {H1 H2 : Hp} (h1 : Off S H H1) (h2 : Off S H1 H2) : Off S H H2 := fun b o n h => h2 b o n (h1 b o n h)
theorem Off.sub {S S' : List Addr} {H' : Hp} (h : Off S H H') (hs : ∀ b, b ∈ S → b ∈ S') : Off S' H H' := fun b o n e => h b o (fun m => n (hs b m)) e
theorem Off.same {S : List Addr} {H1 H2 : Hp} (s : Same H H1) (h : Off S H1 H2) (n : ∀ b, b ∈ S → H b = none) : Same H H2 := fun b o e => h b o (fun m => by rw [n b m] at e; cases e) (s b o e)
theorem same_none {H' : Hp} {b : Addr} (s : Same H H') (h : H' b = none) : H b = none := by
  cases e : H b with
  | none => rfl
  | some o => rw [s _ _ e] at h; cases h
theorem Off.same1 {H1 H2 : Hp} (s : Same H H1) (h : Off [a] H1 H2) (n : H a = none) : Same H H2 := h.same s fun b hb => by rw [List.mem_singleton] at hb; rw [hb]; exact n
theorem Off.at {S : List Addr} {H1 : Hp} {b : Addr} {o : HO} (h : Off S H H1) (e : H b = some o) (n : b ∉ S) : H1 b = some o := h b o n e
theorem Off.upd {S : List Addr} {o : HO} (h : a ∈ S) : Off S H (upd H a o) := fun b u n e => by
  rw [upd_ne (fun z => n (by rw [z]; exact h))]; exact e
theorem Off.lst {r : Addr} {H H' : Hp} {C dx : Addr} {fs : List (Str × V)} {a : Addr} {xs : List V} (s : Off [r] H H') (hr : H r = some (.ins C dx fs)) (h : H a = some (.lst xs)) : H' a = some (.lst xs) := s a _ (fun m => by
  rw [List.mem_singleton] at m; subst m; rw [hr] at h; cases h) h
theorem Off.tup {r : Addr} {H H' : Hp} {C dx : Addr} {fs : List (Str × V)} {a : Addr} {xs : List V} (s : Off [r] H H') (hr : H r = some (.ins C dx fs)) (h : H a = some (.tup xs)) : H' a = some (.tup xs) := s a _ (fun m => by
  rw [List.mem_singleton] at m; subst m; rw [hr] at h; cases h) h
theorem Off.ins {r : Addr} {H H' : Hp} {a : Addr} {o : HO} (s : Off [r] H H') (hne : a ≠ r) (h : H a = some o) : H' a = some o := s a _ (fun m => hne (List.mem_singleton.mp m)) h
def f3K (a C : Addr) (f : Str) (D : Ends) (σ : L2.St) : VK := fun z H3 => ∃ dx' fs', H3 a = some (.ins C dx' fs') ∧ fs'.length < 1000 ∧ D.nx σ (upd H3 a (.ins C dx' (putF f z fs')))
def faK (K : PySem.W.Frag) (tv : TE) (rd : V → V → Hp → VK → Prop) (f : Str) (D : Ends) (σ : L2.St) : V → Hp → Prop := fun x H1 => ∃ a C dx fs v, x = .ref a ∧ H1 a = some (.ins C dx fs) ∧ Cls K C ∧ NoAttr K C f ∧ fs.lookup f = some v ∧
  tv σ H1 fun y H2 => rd v y H2 (f3K a C f D σ)
theorem x_fldAug (h : ta σ H (faK K tv rd f D σ)) : sFldAug K ta tv rd f D σ H := h
theorem putF_new {f : Str} {y : V} : ∀ {fs : List (Str × V)}, fs.lookup f = none → putF f y fs = fs ++ [(f, y)]
  | [], _ => rfl
  | (g, x) :: r, h => by
    rw [List.lookup_cons] at h
    by_cases e : f = g
    · subst e; simp at h
    · rw [show (f == g) = false from beq_eq_false_iff_ne.mpr e] at h
      show (if g = f then _ else _) = _
      rw [if_neg (Ne.symm e), putF_new h]
      rfl
/-- self.f = y, f new -/
theorem x_sfN {C dx : Addr} {fs : List (Str × V)} (ho : H a = some (.ins C dx fs)) (hf : fs.lookup f = none) (q : ∀ H1, Off [a] H H1 → H1 a = some (.ins C dx (fs ++ [(f, y)])) → D.nx σ H1) (hc : Cls K C) (hn : NoAttr K C f) (hl : fs.length < 1000) : sfK K f y D σ (.ref a) H :=
  ⟨a, C, dx, fs, rfl, ho, hc, hn, hl, by rw [putF_new hf]; exact q _ (Off.upd (List.mem_singleton.mpr rfl)) upd_same⟩
/-- self.f = y, f there -/
theorem x_sfO {C dx : Addr} {fs fs' : List (Str × V)} (ho : H a = some (.ins C dx fs)) (hf : putF f y fs = fs') (q : ∀ H1, Off [a] H H1 → H1 a = some (.ins C dx fs') → D.nx σ H1) (hc : Cls K C) (hn : NoAttr K C f) (hl : fs.length < 1000) : sfK K f y D σ (.ref a) H :=
  ⟨a, C, dx, fs, rfl, ho, hc, hn, hl, by rw [hf]; exact q _ (Off.upd (List.mem_singleton.mpr rfl)) upd_same⟩
theorem x_gsub {to ti : TE} {t : TSet} {v : V} {QS : L2.St → Hp → Prop} (h : to σ H fun o H1 => ti σ H1 fun i H2 => t o i v H2 fun H3 => QS σ H3) : gSub to ti t v σ H QS := h
theorem x_setL {xs : List V} {k : Int} {v : V} {QS : Hp → Prop} (hp : H a = some (.lst xs)) (q : ∀ H1, Off [a] H H1 → H1 a = some (.lst (xs.set k.toNat v)) → QS H1) (h0 : 0 ≤ k) (h1 : k < xs.length) : rSetL (.ref a) (.int k) v H QS :=
  ⟨a, xs, k, k.toNat, rfl, rfl, hp, by unfold ixN; rw [if_pos h0, if_pos h1], q _ (Off.upd (List.mem_singleton.mpr rfl)) upd_same⟩
/-- xs[i] of an augmented store -/
def rGetL (K : PySem.W.Frag) : V → V → Hp → VK → Prop := fun o i H Q => ∃ p xs k v, o = .ref p ∧ i = .int k ∧ SqL K H p xs ∧ 0 ≤ k ∧ xs[k.toNat]? = some v ∧ Q v H
theorem get_list {X : Cx} : PGet X (rGetL X.K) := by
  intro pins s σ H o i ov iv Q I ro ri h
  obtain ⟨p, xs, k, v, rfl, rfl, hq, h0, he, q⟩ := h
  cases ro
  obtain ⟨t, rfl⟩ := ri
  obtain ⟨its, r, pl, hz⟩ := I.list hq
  obtain ⟨w, ew, rw'⟩ := r.get he
  have hl := r.length
  have hn := line63
  have hlt := (List.getElem?_eq_some_iff.mp he).1
  exact wpAny_getItem_list pl.isList h0 (by omega) (by simpa using ew) ⟨v, H, I, rw', q⟩
theorem x_augS {to ti te : TE} {tget : V → V → Hp → VK → Prop} {tip : TIp} {tset : TSet} (h : to σ H fun o H1 => ti σ H1 fun i H2 => tget o i H2 fun x H3 => te σ H3 fun y H4 => tip x y H4 fun z H5 => tset o i z H5 fun H6 => D.nx σ H6) : tAugS to ti te tget tip tset D σ H := h
theorem x_seqAS {to ti te : TE} {tget : V → V → Hp → VK → Prop} {tip : TIp} {tset : TSet} {u : TS} (h : tAugS to ti te tget tip tset { D with nx := u D } σ H) : tSeq (tAugS to ti te tget tip tset) u D σ H := h
theorem x_getL {xs : List V} {k : Int} (h : SqL K H a xs) (q : Q (xs.getD k.toNat .non) H) (h0 : 0 ≤ k) (h1 : k < xs.length) : rGetL K (.ref a) (.int k) H Q := ⟨a, xs, k, _, rfl, rfl, h, h0, by
  have hn : k.toNat < xs.length := by omega
  simp [hn], q⟩
theorem x_getI {ns : List Int} {k : Int} (h : SqL K H a (ns.map V.int)) (q : Q (.int (ns.getD k.toNat 0)) H) (h0 : 0 ≤ k) (h1 : k < ns.length) : rGetL K (.ref a) (.int k) H Q := ⟨a, _, k, _, rfl, rfl, h, h0, by
  have hn : k.toNat < ns.length := by omega
  simp [hn], q⟩
theorem x_rSub {m n : Int} (q : Q (.int (m - n)) H) : rSub (.int m) (.int n) H Q := ⟨m, n, rfl, rfl, q⟩
/-- xs[i] by values that are named otherwise -/
theorem x_ixF {α : Type} {l : List α} {g : α → V} {k : Int} (d : α) (h : SqL K H a (l.map g)) (q : Q (g (l.getD k.toNat d)) H) (h0 : 0 ≤ k) (h1 : k < l.length) : rIx K (.ref a) (.int k) H Q := by
  have hn : k.toNat < l.length := by omega
  refine x_ixL h ?_ h0 (by rw [List.length_map]; exact h1)
  rw [show (l.map g).getD k.toNat .non = g (l.getD k.toNat d) by simp [hn]]
  exact q
theorem nin_of {b : Addr} (h : b ≠ a) : b ∉ [a] := fun z => h (List.mem_singleton.mp z)
theorem x_ixB {bs : List Bool} {k : Int} (h : SqL K H a (bs.map V.bl)) (q : Q (.bl (bs.getD k.toNat false)) H) (h0 : 0 ≤ k) (h1 : k < bs.length) : rIx K (.ref a) (.int k) H Q := x_ixF false h q h0 h1
theorem x_rAdd {m n : Int} (q : Q (.int (m + n)) H) : rAdd (.int m) (.int n) H Q := ⟨m, n, rfl, rfl, q⟩
theorem x_aug {i : Nat} {ti : TIp} (h : σ[i]? = some (some x)) (q : te σ H fun y H1 => ti x y H1 fun z H2 => D.nx (σ.set i (some z)) H2) : tAug i te ti D σ H := ⟨x, h, q⟩
theorem x_ipI {g : Int → Int → Int} {m n : Int} (q : Q (.int (g m n)) H) : ipI g (.int m) (.int n) H Q := ⟨m, n, rfl, rfl, q⟩
def whK (W : Nat → L2.St → Hp → Prop) (tb : TS) (D : Ends) (m : Nat) (σ : L2.St) : Bool → Hp → Prop := fun b H1 => if b = true then ∃ N : L2.St → Hp → Prop, (∀ σ' H', N σ' H' → ∃ m', m' < m ∧ W m' σ' H') ∧ tb { D with nx := N, ct := N, bk := D.nx } σ H1 else D.nx σ H1
theorem x_whl (W : Nat → L2.St → Hp → Prop) (m : Nat) (h0 : W m σ H) (hs : ∀ m σ H, W m σ H → tc σ H (whK W tb D m σ)) : tWhile tc tb D σ H := ⟨W, ⟨m, h0⟩, hs⟩
theorem x_isN (q : Q (.bl (decide (x = .non))) H) : uIs x .non H Q := .inl ⟨rfl, q⟩
theorem x_isNotN (q : Q (.bl (!decide (x = .non))) H) : uIsNot x .non H Q := .inl ⟨rfl, q⟩
theorem x_isB {b c : Bool} (q : Q (.bl (decide (b = c))) H) : uIs (.bl b) (.bl c) H Q := .inr ⟨b, c, rfl, rfl, q⟩
theorem x_isNotB {b c : Bool} (q : Q (.bl (!decide (b = c))) H) : uIsNot (.bl b) (.bl c) H Q := .inr ⟨b, c, rfl, rfl, q⟩
theorem inV_int (n : Int) (ns : List Int) : inV (.int n) (ns.map V.int) = decide (n ∈ ns) := by
  unfold inV
  induction ns with
  | nil => rfl
  | cons m ns ih =>
    rw [List.map_cons, List.any_cons, ih]
    have e : eqV (.int m) (.int n) = decide (n = m) := by
      show (m == n) = _
      rw [Bool.eq_iff_iff, beq_iff_eq, decide_eq_true_iff]
      exact ⟨Eq.symm, Eq.symm⟩
    rw [e, ← Bool.decide_or, decide_eq_decide, List.mem_cons]
theorem flat_ints (ns : List Int) : (ns.map V.int).all flatV = true := by
  rw [List.all_eq_true]
  intro x h
  obtain ⟨n, _, rfl⟩ := List.mem_map.mp h
  rfl
theorem x_inI {n : Int} {ns : List Int} (h : SqL K H a (ns.map V.int)) (q : Q (.bl (decide (n ∈ ns))) H) : uIn K (.int n) (.ref a) H Q := ⟨a, _, rfl, .inl h, rfl, flat_ints ns, by rw [inV_int] <;> exact q⟩
theorem x_notInI {n : Int} {ns : List Int} (h : SqL K H a (ns.map V.int)) (q : Q (.bl (!decide (n ∈ ns))) H) : uNotIn K (.int n) (.ref a) H Q := ⟨a, _, rfl, .inl h, rfl, flat_ints ns, by rw [inV_int] <;> exact q⟩
end
/-! ### dicts of text keys -/
section
variable {σ : L2.St} {H : Hp} {K : PySem.W.Frag} {D : Ends} {td ty tv : TE} {a : Addr} {Q : VK} {x v : V} {z : Str} {kvs kvs' : List (L2.Key × V)}
def dgK (x : V) (Q : VK) : V → Hp → Prop := fun y H2 => ∃ a v, x = .ref a ∧ DGet H2 a y (some v) ∧ Q v H2
theorem x_dget (h : td σ H fun x H1 => ty σ H1 (dgK x Q)) : tDGet td ty σ H Q := h
theorem x_dgS (h : H a = some (.dK kvs)) (hv : valV kvs (.inr z) = some v) (q : Q v H) : dgK (.ref a) Q (.str z) H := ⟨a, v, rfl, by rw [← hv]; exact DGet.k (k := .inr z) h, q⟩
theorem x_dgI {n : Int} (h : H a = some (.dK kvs)) (hv : valV kvs (.inl n) = some v) (q : Q v H) : dgK (.ref a) Q (.int n) H := ⟨a, v, rfl, by rw [← hv]; exact DGet.k (k := .inl n) h, q⟩
def dpK (x v : V) (D : Ends) (σ : L2.St) : V → Hp → Prop := fun y H3 => ∃ a H4, x = .ref a ∧ DPut H3 a y v H4 ∧ D.nx σ H4
theorem x_dput (h : tv σ H fun v H1 => td σ H1 fun x H2 => ty σ H2 (dpK x v D σ)) : sDPut td ty tv D σ H := h
theorem x_seqDP {u : TS} (h : sDPut td ty tv { D with nx := u D } σ H) : tSeq (sDPut td ty tv) u D σ H := h
theorem x_dpI {n : Int} (h : H a = some (.dK kvs)) (hk : putK kvs (.inl n) v = kvs') (q : ∀ H1, Off [a] H H1 → H1 a = some (.dK kvs') → D.nx σ H1) (hl : kvs.length ≤ 1000) : dpK (.ref a) v D σ (.int n) H :=
  ⟨a, _, rfl, DPut.k (k := .inl n) h (Nat.lt_of_le_of_lt hl (by decide)), by rw [hk]; exact q _ (Off.upd (List.mem_singleton.mpr rfl)) upd_same⟩
/-- {k: v, ..} -/
def dspK (p : Addr) (Q : VK) : List (V × V) → Hp → Prop := fun ps H2 => H2 p = some (.dK []) ∧ ∃ kvs : List (L2.Key × V), ps = kvs.map (fun kv => (kV kv.1, kv.2)) ∧ kvs.length ≤ 15 ∧ Q (.ref p) (upd H2 p (.dK (mergeK [] kvs)))
theorem x_disp {trs : List (TE × TE)} (h : ∀ p H1, H p = none → Same H H1 → H1 p = some (.dK []) → tPairs trs σ H1 (dspK p Q)) : tDisp trs σ H Q := fun p hp => h p _ hp (same_upd hp) upd_same
theorem x_prN {QP : List (V × V) → Hp → Prop} (q : QP [] H) : tPairs [] σ H QP := q
theorem x_prC {tk tv : TE} {r : List (TE × TE)} {QP : List (V × V) → Hp → Prop} (q : tk σ H fun x H1 => tv σ H1 fun y H2 => tPairs r σ H2 fun ps H3 => QP ((x, y) :: ps) H3) : tPairs ((tk, tv) :: r) σ H QP := q
theorem x_dspK {ps : List (V × V)} (kvs : List (L2.Key × V)) (h : H a = some (.dK [])) (e : ps = kvs.map (fun kv => (kV kv.1, kv.2))) (hl : kvs.length ≤ 15) (hm : mergeK [] kvs = kvs') (q : ∀ H1, Off [a] H H1 → H1 a = some (.dK kvs') → Q (.ref a) H1) : dspK a Q ps H :=
  ⟨h, kvs, e, hl, by rw [hm]; exact q _ (Off.upd (List.mem_singleton.mpr rfl)) upd_same⟩
theorem x_dnew (h : ∀ p H1, H p = none → Same H H1 → H1 p = some (.dK []) → Q (.ref p) H1) : tDNewK σ H Q := fun p hp => h p _ hp (same_upd hp) upd_same
/-! k in d, d.get(k), d.get(k, x), d.setdefault(k, x), d.pop(k), d.pop(k, x) -/
def dinK (y : V) (Q : VK) : V → Hp → Prop := fun x H2 => ∃ a o, x = .ref a ∧ DGet H2 a y o ∧ Q (.bl o.isSome) H2
theorem x_din (h : ty σ H fun y H1 => td σ H1 (dinK y Q)) : tDIn ty td σ H Q := h
def dninK (y : V) (Q : VK) : V → Hp → Prop := fun x H2 => ∃ a o, x = .ref a ∧ DGet H2 a y o ∧ Q (.bl (!o.isSome)) H2
theorem x_dnin (h : ty σ H fun y H1 => td σ H1 (dninK y Q)) : tDNotIn ty td σ H Q := h
theorem x_dninI {n : Int} (h : H a = some (.dK kvs)) (q : Q (.bl (!(valV kvs (.inl n)).isSome)) H) : dninK (.int n) Q (.ref a) H := ⟨a, _, rfl, DGet.k (k := .inl n) h, q⟩
theorem x_dinI {n : Int} (h : H a = some (.dK kvs)) (q : Q (.bl (valV kvs (.inl n)).isSome) H) : dinK (.int n) Q (.ref a) H := ⟨a, _, rfl, DGet.k (k := .inl n) h, q⟩
def dg1E (a : Addr) (Q : VK) : V → Hp → Prop := fun y H2 => ∃ o, DGet H2 a y o ∧ Q (o.getD .non) H2
def dg1K (ty : TE) (Q : VK) (σ : L2.St) : V → Hp → Prop := fun x H1 => ∃ a, x = .ref a ∧ IsD H1 a ∧ ty σ H1 (dg1E a Q)
theorem x_dget1 (h : td σ H (dg1K ty Q σ)) : tDGet1 td ty σ H Q := h
theorem x_dg1K (h : H a = some (.dK kvs)) (q : ty σ H (dg1E a Q)) : dg1K ty Q σ (.ref a) H := ⟨a, rfl, .inl ⟨kvs, .inl h⟩, q⟩
theorem x_dg1I {n : Int} (h : H a = some (.dK kvs)) (q : Q ((valV kvs (.inl n)).getD .non) H) : dg1E a Q (.int n) H := ⟨_, DGet.k (k := .inl n) h, q⟩
def dsE (a : Addr) (Q : VK) (y : V) : V → Hp → Prop := fun z H3 => ∃ (kvs : List (L2.Key × V)) (k : L2.Key), H3 a = some (.dK kvs) ∧ y = kV k ∧ kvs.length < sizeLine ∧ (∀ v, valV kvs k = some v → Q v H3) ∧ (valV kvs k = none → Q z (L2.upd H3 a (.dK (putK kvs k z))))
def dsK (ty tx : TE) (Q : VK) (σ : L2.St) : V → Hp → Prop := fun x H1 => ∃ a, x = .ref a ∧ IsD H1 a ∧ ty σ H1 fun y H2 => tx σ H2 (dsE a Q y)
theorem x_dsetd {tx : TE} (h : td σ H (dsK ty tx Q σ)) : tDSetd td ty tx σ H Q := h
theorem x_dsK {tx : TE} (h : H a = some (.dK kvs)) (q : ty σ H fun y H2 => tx σ H2 (dsE a Q y)) : dsK ty tx Q σ (.ref a) H := ⟨a, rfl, .inl ⟨kvs, .inl h⟩, q⟩
def dpp1E (a : Addr) (Q : VK) : V → Hp → Prop := fun y H2 => ∃ kvs k v, H2 a = some (.dK kvs) ∧ y = kV k ∧ valV kvs k = some v ∧ Q v (L2.upd H2 a (.dK (dropK kvs k)))
def dpp1K (ty : TE) (Q : VK) (σ : L2.St) : V → Hp → Prop := fun x H1 => ∃ a, x = .ref a ∧ IsD H1 a ∧ ty σ H1 (dpp1E a Q)
theorem x_dpop1 (h : td σ H (dpp1K ty Q σ)) : tDPop1 td ty σ H Q := h
theorem x_dpp1K (h : H a = some (.dK kvs)) (q : ty σ H (dpp1E a Q)) : dpp1K ty Q σ (.ref a) H := ⟨a, rfl, .inl ⟨kvs, .inl h⟩, q⟩
def dpp2E (a : Addr) (Q : VK) (y : V) : V → Hp → Prop := fun z H3 => ∃ kvs k, H3 a = some (.dK kvs) ∧ y = kV k ∧ (∀ v, valV kvs k = some v → Q v (L2.upd H3 a (.dK (dropK kvs k)))) ∧ (valV kvs k = none → Q z H3)
def dpp2K (ty tx : TE) (Q : VK) (σ : L2.St) : V → Hp → Prop := fun x H1 => ∃ a, x = .ref a ∧ IsD H1 a ∧ ty σ H1 fun y H2 => tx σ H2 (dpp2E a Q y)
theorem x_dpop2 {tx : TE} (h : td σ H (dpp2K ty tx Q σ)) : tDPop2 td ty tx σ H Q := h
theorem x_dpp2K {tx : TE} (h : H a = some (.dK kvs)) (q : ty σ H fun y H2 => tx σ H2 (dpp2E a Q y)) : dpp2K ty tx Q σ (.ref a) H := ⟨a, rfl, .inl ⟨kvs, .inl h⟩, q⟩
end
/-! ### exceptions -/
section
variable {X : Cx} {K : PySem.W.Frag} {W Wout : WX} {D : Ends} {σ : L2.St} {H : Hp} {cls c : Value} {d : Option Addr} {a C fI : Addr} {Q : VK}
/-- an exception class without an own __init__ -/
structure XC (K : PySem.W.Frag) (C : Addr) : Prop where
  q : PySem.W.excIn K C [.type "ValueError", .type "Exception", .type "BaseException", .type "object"] "ValueError.__new__" = true
  k : PySem.W.keepIn K (.ref C) = true
  r : PySem.W.subIn K (.ref C) (.type "BaseException") = some true
  t : PySem.W.typeIn K (.ref C) = some (.type "type")
def tRaise (t : L2.St → Hp → XK → Prop) (W : WX) : TS := fun _ σ H => t σ H fun cls d H' => W cls d σ H'
theorem ps_raiseK {e : Expr} {t : L2.St → Hp → XK → Prop} {pos : Pos} (hc : X.calm = true) (tk : Takes X W) (he : PMk X e t) : PS X (.Raise (some e) none pos) (tRaise t W) := ps_raise hc tk he
def tMkE (C : Addr) : L2.St → Hp → XK → Prop := fun _ H Q => Q (.ref C) none H
theorem pmk_ownK {x m : Str} {j : Nat} {p p2 pos : Pos} (T : XC X.K C) (gC : X.mg x = some (.ref C)) (hg : Gl X x) (hdb : (x == ("__debug__" : Str)) = false := by decide) : PMk X (.Call (.Name x p) [.Constant (.str m) j p2] [] pos) (tMkE C) :=
  pmk_own PySem.F.excBase_ValueError T.q gC T.k (raises_own T.r T.t) hg hdb
theorem x_raise {t : L2.St → Hp → XK → Prop} (h : t σ H fun cls d H' => W cls d σ H') : tRaise t W D σ H := h
theorem x_seqR {t : L2.St → Hp → XK → Prop} {u : TS} (h : tRaise t W { D with nx := u D } σ H) : tSeq (tRaise t W) u D σ H := h
theorem x_mkE {Q : XK} (q : Q (.ref C) none H) : tMkE C σ H Q := q
def tTry1 (K : PySem.W.Frag) (c : Value) (tb : WX → TS) (ts : Addr → Value → Option Addr → TS) (Wout : WX) : TS := fun D σ H => tb (wOnly K c ts Wout D) D σ H
theorem x_try1 {tb : WX → TS} {ts : Addr → Value → Option Addr → TS} (h : tb (wOnly K c ts Wout D) D σ H) : tTry1 K c tb ts Wout D σ H := h
theorem x_seqT1 {tb : WX → TS} {ts : Addr → Value → Option Addr → TS} {u : TS} (h : tTry1 K c tb ts Wout { D with nx := u D } σ H) : tSeq (tTry1 K c tb ts Wout) u D σ H := h
def tTryA (K : PySem.W.Frag) (c : Value) (i : Nat) (tb : WX → TS) (ts : Addr → Value → Option Addr → TS) (Wout : WX) : TS := fun D σ H => tb (wAs K c i ts Wout D) D σ H
theorem x_tryA {i : Nat} {tb : WX → TS} {ts : Addr → Value → Option Addr → TS} (h : tb (wAs K c i ts Wout D) D σ H) : tTryA K c i tb ts Wout D σ H := h
theorem x_seqTA {i : Nat} {tb : WX → TS} {ts : Addr → Value → Option Addr → TS} {u : TS} (h : tTryA K c i tb ts Wout { D with nx := u D } σ H) : tSeq (tTryA K c i tb ts Wout) u D σ H := h
/-! several except clauses -/
def tTryM (K : PySem.W.Frag) (l : List (Value × (Addr → Value → Option Addr → TS))) (tb : WX → TS) (Wout : WX) : TS := fun D σ H => tb (wMany K Wout D l) D σ H
theorem x_tryM {l : List (Value × (Addr → Value → Option Addr → TS))} {tb : WX → TS} (h : tb (wMany K Wout D l) D σ H) : tTryM K l tb Wout D σ H := h
theorem x_seqTM {l : List (Value × (Addr → Value → Option Addr → TS))} {tb : WX → TS} {u : TS} (h : tTryM K l tb Wout { D with nx := u D } σ H) : tSeq (tTryM K l tb Wout) u D σ H := h
/-- e.f of a caught exception -/
def xfK (a : Addr) (cls : Value) (d : Option Addr) (C : Addr) (f : Str) (Q : VK) : V → Hp → Prop := fun x H1 => x = .ref a ∧ cls = .ref C ∧ ∃ (dd : Addr) (fs : List (Str × V)) (v : V), d = some dd ∧ H1 dd = some (.xd fs) ∧ fs.lookup f = some v ∧ Q v H1
theorem x_xf {f : Str} {te : TE} (h : te σ H (xfK a cls d C f Q)) : tXf a cls d C f te σ H Q := h
/-! a class with an own __init__ -/
def veK (K : PySem.W.Frag) (Q : VK) : List V → Hp → Prop := fun vs H1 => ∃ (a C : Addr) (ws : List V), vs = .ref a :: ws ∧ ws.length ≤ 1000 ∧ OexC K C ∧ H1 a = some (exo a C none) ∧ Q .non H1
theorem x_vei {ta : TA} (h : ta σ H (veK K Q)) : tVeI K ta σ H Q := h
def moK (C : Addr) (sp : Sp) (dvs : List V) (Q : XK) : List V → Hp → Prop := fun vs H1 => vs.length ≤ 1000 ∧ ∀ a, H1 a = none → sp (.ref a :: (vs ++ dvs)) (upd H1 a (exo a C none))
  (fun v H2 => v = .non ∧ ∃ (d : Addr) (fs : List (Str × V)), H2 a = some (exo a C (some d)) ∧ H2 d = some (exd d fs) ∧ H1 d = none ∧ Q (.ref C) (some d) (upd (del H2 a) d (.xd fs))) (fun _ _ _ => False)
theorem x_mkO {sp : Sp} {dvs : List V} {Q : XK} {ta : TA} (h : ta σ H (moK C sp dvs Q)) : tMkO C sp dvs ta σ H Q := h
end
/-! several except clauses, some of them with a name -/
section
variable {X : Cx}
/-- what a clause does with an exception at q: the slot of its name, if it has one, holds it -/
def inAs (o : Option Nat) (ts : Addr → Value → Option Addr → TS) (q : Addr) (cls : Value) (d : Option Addr) : TS := match o with
  | none => ts q cls d
  | some i => fun D σ H => ts q cls d { nx := fun σ' H' => D.nx (σ'.set i none) H', rt := D.rt, bk := fun σ' H' => D.bk (σ'.set i none) H', ct := fun σ' H' => D.ct (σ'.set i none) H' } (σ.set i (some (.ref q))) H
def wMix (K : PySem.W.Frag) (Wout : WX) (D : Ends) : List (Value × Option Nat × (Addr → Value → Option Addr → TS)) → WX
  | [] => Wout
  | (c, o, ts) :: r => fun cls d σ H => ∃ b, PySem.W.exmOne K cls c = some b ∧ (b = true → ∀ q, H q = none → inAs o ts q cls d D σ H) ∧ (b = false → wMix K Wout D r cls d σ H)
def tMix (K : PySem.W.Frag) (l : List (Value × Option Nat × (Addr → Value → Option Addr → TS))) (tb : WX → TS) (Wout : WX) : TS := fun D σ H => tb (wMix K Wout D l) D σ H
variable {K : PySem.W.Frag} {Wout : WX} {D : Ends} {σ : L2.St} {H : Hp} {cls c : Value} {d : Option Addr}
theorem x_mix {l : List (Value × Option Nat × (Addr → Value → Option Addr → TS))} {tb : WX → TS} (h : tb (wMix K Wout D l) D σ H) : tMix K l tb Wout D σ H := h
theorem x_seqMix {l : List (Value × Option Nat × (Addr → Value → Option Addr → TS))} {tb : WX → TS} {u : TS} (h : tMix K l tb Wout { D with nx := u D } σ H) : tSeq (tMix K l tb Wout) u D σ H := h
end
/-! list(reversed(x)), x a list -/
section
variable {X : Cx}
def tListRev (K : PySem.W.Frag) (te : TE) : TE := fun σ H Q => te σ H fun v H1 => ∃ (a : Addr) (xs : List V), v = .ref a ∧ SqL K H1 a xs ∧ ∀ q, H1 q = none → Q (.ref q) (upd H1 q (.lst xs.reverse))
def lrK (K : PySem.W.Frag) (Q : VK) : V → Hp → Prop := fun v H1 => ∃ (a : Addr) (xs : List V), v = .ref a ∧ SqL K H1 a xs ∧ ∀ q, H1 q = none → Q (.ref q) (upd H1 q (.lst xs.reverse))
theorem x_listRev {K : PySem.W.Frag} {te : TE} {σ : L2.St} {H : Hp} {Q : VK} (h : te σ H (lrK K Q)) : tListRev K te σ H Q := h
theorem x_lrK {K : PySem.W.Frag} {H : Hp} {a : Addr} {xs : List V} {Q : VK} (h : SqL K H a xs) (q : New H Q (.lst xs.reverse)) : lrK K Q (.ref a) H := ⟨a, xs, rfl, h, q.mk⟩
end
/-! sorted pairs of numbers -/
theorem perm_sorted_eq {α : Type} {r : α → α → Prop} (anti : ∀ a b, r a b → r b a → a = b) : ∀ {l m : List α}, l.Perm m → l.Pairwise r → m.Pairwise r → l = m
  | [], m, h, _, _ => (List.nil_perm.mp h).symm
  | a :: l, [], h, _, _ => absurd h.symm (by intro z; exact absurd (List.nil_perm.mp z) (by simp))
  | a :: l, b :: m, h, h1, h2 => by
    have h1' := List.pairwise_cons.mp h1
    have h2' := List.pairwise_cons.mp h2
    have e : a = b := by
      rcases List.mem_cons.mp (h.mem_iff.mp List.mem_cons_self) with e | e
      · exact e
      rcases List.mem_cons.mp (h.symm.mem_iff.mp List.mem_cons_self) with e2 | e2
      · exact e2.symm
      · exact anti a b (h1'.1 b e2) (h2'.1 a e)
    subst e
    rw [perm_sorted_eq anti (List.Perm.cons_inv h) h1'.2 h2'.2]
def leP (a b : Int × Int) : Bool := !SrtO.lexB b a
def sortP (l : List (Int × Int)) : List (Int × Int) := l.mergeSort leP
theorem leP_iff {a b : Int × Int} : leP a b = true ↔ a.1 < b.1 ∨ (a.1 = b.1 ∧ a.2 ≤ b.2) := by
  unfold leP
  rw [Bool.not_eq_true', SrtO.lexB_no]
  omega
theorem sortP_pw (l : List (Int × Int)) : (sortP l).Pairwise fun a b => leP a b = true :=
  List.pairwise_mergeSort (fun a b c h1 h2 => by rw [leP_iff] at h1 h2 ⊢; omega) (fun a b => by
    rw [Bool.or_eq_true, leP_iff, leP_iff]; omega) l
theorem sortP_eq {ys l : List (Int × Int)} (hp : ys.Perm l) (hs : ys.Pairwise fun a b => leP a b = true) : ys = sortP l :=
  perm_sorted_eq (fun a b h1 h2 => by
    rw [leP_iff] at h1 h2
    exact Prod.ext (by omega) (by omega)) (hp.trans (List.mergeSort_perm l leP).symm) hs (sortP_pw l)
theorem sortP_perm (l : List (Int × Int)) : (sortP l).Perm l := List.mergeSort_perm l leP
/-- a list of tuples of two numbers each -/
def PairL (H : Hp) (xs : List V) (l : List (Int × Int)) : Prop := xs.length = l.length ∧ ∀ (i : Nat) x e, xs[i]? = some x → l[i]? = some e → ∃ t, x = .ref t ∧ H t = some (.tup [.int e.1, .int e.2])
theorem PairL.mono {H H' : Hp} {xs : List V} {l : List (Int × Int)} (s : TupS H H') (h : PairL H xs l) : PairL H' xs l := ⟨h.1, fun i x e h1 h2 => by
  obtain ⟨t, q, h⟩ := h.2 i x e h1 h2
  exact ⟨t, q, s _ _ h⟩⟩
theorem PairL.nil {H : Hp} : PairL H [] [] := ⟨rfl, fun i x e h _ => by simp at h⟩
theorem PairL.snoc {H : Hp} {xs : List V} {l : List (Int × Int)} {v : V} {e : Int × Int} (h : PairL H xs l) (hv : ∃ t, v = .ref t ∧ H t = some (.tup [.int e.1, .int e.2])) : PairL H (xs ++ [v]) (l ++ [e]) := by
  refine ⟨by simp [h.1], fun i x y h1 h2 => ?_⟩
  by_cases hi : i < xs.length
  · rw [List.getElem?_append_left hi] at h1
    rw [List.getElem?_append_left (h.1 ▸ hi)] at h2
    exact h.2 i x y h1 h2
  · have e1 : i = xs.length := by
      have := (List.getElem?_eq_some_iff.mp h1).1
      simp at this
      omega
    subst e1
    rw [List.getElem?_append_right (Nat.le_refl _)] at h1
    rw [h.1, List.getElem?_append_right (Nat.le_refl _)] at h2
    simp at h1 h2
    subst h1 h2
    exact hv
def pairV (H : Hp) : V → Int × Int
  | .ref t => match H t with
    | some (.tup [.int i, .int j]) => (i, j)
    | _ => (0, 0)
  | _ => (0, 0)
theorem pairV_ref {H : Hp} {t : Addr} {i j : Int} (h : H t = some (.tup [.int i, .int j])) : pairV H (.ref t) = (i, j) := by
  unfold pairV
  simp only [h]
theorem PairL.map {H : Hp} {xs : List V} {l : List (Int × Int)} (h : PairL H xs l) : xs.map (pairV H) = l := by
  refine List.ext_getElem? fun i => ?_
  rw [List.getElem?_map]
  cases e1 : xs[i]? with
  | none =>
    have := h.1
    rw [List.getElem?_eq_none_iff] at e1
    rw [List.getElem?_eq_none (by omega)]
    rfl
  | some x =>
    have hl := (List.getElem?_eq_some_iff.mp e1).1
    obtain ⟨e, e2⟩ : ∃ e, l[i]? = some e := ⟨_, List.getElem?_eq_getElem (by have := h.1; omega)⟩
    obtain ⟨t, rfl, ht⟩ := h.2 i x e e1 e2
    rw [e2, Option.map_some, pairV_ref ht]
theorem PairL.mem {H : Hp} {xs : List V} {l : List (Int × Int)} (h : PairL H xs l) {x : V} (hx : x ∈ xs) : ∃ t, x = .ref t ∧ H t = some (.tup [.int (pairV H x).1, .int (pairV H x).2]) := by
  obtain ⟨i, e1⟩ := List.mem_iff_getElem?.mp hx
  have hl := (List.getElem?_eq_some_iff.mp e1).1
  obtain ⟨e, e2⟩ : ∃ e, l[i]? = some e := ⟨_, List.getElem?_eq_getElem (by have := h.1; omega)⟩
  obtain ⟨t, rfl, ht⟩ := h.2 i x e e1 e2
  exact ⟨t, rfl, by rw [pairV_ref ht]; exact ht⟩
/-! sorted tuples of whole numbers, fewer than 64 -/
/-- a list of tuples of whole numbers -/
def TupL (H : Hp) (xs : List V) (ls : List (List Int)) : Prop := xs.length = ls.length ∧ ∀ (i : Nat) x e, xs[i]? = some x → ls[i]? = some e → ∃ t, x = .ref t ∧ H t = some (.tup (e.map V.int))
theorem TupL.mono {H H' : Hp} {xs : List V} {l : List (List Int)} (s : TupS H H') (h : TupL H xs l) : TupL H' xs l := ⟨h.1, fun i x e h1 h2 => by
  obtain ⟨t, q, h⟩ := h.2 i x e h1 h2
  exact ⟨t, q, s _ _ h⟩⟩
theorem TupL.nil {H : Hp} : TupL H [] [] := ⟨rfl, fun i x e h _ => by simp at h⟩
theorem TupL.snoc {H : Hp} {xs : List V} {l : List (List Int)} {v : V} {e : List Int} (h : TupL H xs l) (hv : ∃ t, v = .ref t ∧ H t = some (.tup (e.map V.int))) : TupL H (xs ++ [v]) (l ++ [e]) := by
  refine ⟨by simp [h.1], fun i x y h1 h2 => ?_⟩
  by_cases hi : i < xs.length
  · rw [List.getElem?_append_left hi] at h1
    rw [List.getElem?_append_left (h.1 ▸ hi)] at h2
    exact h.2 i x y h1 h2
  · have e1 : i = xs.length := by
      have := (List.getElem?_eq_some_iff.mp h1).1
      simp at this
      omega
    subst e1
    rw [List.getElem?_append_right (Nat.le_refl _)] at h1
    rw [h.1, List.getElem?_append_right (Nat.le_refl _)] at h2
    simp at h1 h2
    subst h1 h2
    exact hv
theorem TupL.take {H : Hp} {ws : List V} {is : List (List Int)} (h : TupL H ws is) (m : Nat) : TupL H (ws.take m) (is.take m) := ⟨by rw [List.length_take, List.length_take, h.1], fun i x e h1 h2 => by
  rw [List.getElem?_take] at h1 h2
  split at h1
  · rename_i hi
    rw [if_pos hi] at h2
    exact h.2 i x e h1 h2
  · cases h1⟩
def vInt : V → Int
  | .int n => n
  | _ => 0
theorem vInt_map (e : List Int) : (e.map V.int).map vInt = e := by
  rw [List.map_map]
  exact List.map_id'' (fun _ => rfl) e
def tupV (H : Hp) : V → List Int
  | .ref t => match H t with
    | some (.tup vs) => vs.map vInt
    | _ => []
  | _ => []
theorem tupV_ref {H : Hp} {t : Addr} {e : List Int} (h : H t = some (.tup (e.map V.int))) : tupV H (.ref t) = e := by
  unfold tupV
  simp only [h]
  exact vInt_map e
theorem TupL.get {H : Hp} {xs : List V} {l : List (List Int)} (h : TupL H xs l) {i : Nat} {x : V} (hi : xs[i]? = some x) : ∃ e t, l[i]? = some e ∧ x = .ref t ∧ H t = some (.tup (e.map V.int)) := by
  have hl := (List.getElem?_eq_some_iff.mp hi).1
  obtain ⟨e, e2⟩ : ∃ e, l[i]? = some e := ⟨_, List.getElem?_eq_getElem (by have := h.1; omega)⟩
  obtain ⟨t, rfl, ht⟩ := h.2 i x e hi e2
  exact ⟨e, t, e2, rfl, ht⟩
theorem TupL.map {H : Hp} {xs : List V} {l : List (List Int)} (h : TupL H xs l) : xs.map (tupV H) = l := by
  refine List.ext_getElem? fun i => ?_
  rw [List.getElem?_map]
  cases e1 : xs[i]? with
  | none =>
    have := h.1
    rw [List.getElem?_eq_none_iff] at e1
    rw [List.getElem?_eq_none (by omega)]
    rfl
  | some x =>
    obtain ⟨e, t, e2, rfl, ht⟩ := h.get e1
    rw [e2, Option.map_some, tupV_ref ht]
theorem TupL.mem {H : Hp} {xs : List V} {l : List (List Int)} (h : TupL H xs l) {x : V} (hx : x ∈ xs) : tupV H x ∈ l ∧ ∃ t, x = .ref t ∧ H t = some (.tup ((tupV H x).map V.int)) := by
  obtain ⟨i, e1⟩ := List.mem_iff_getElem?.mp hx
  obtain ⟨e, t, e2, rfl, ht⟩ := h.get e1
  rw [tupV_ref ht]
  exact ⟨List.mem_of_getElem? e2, t, rfl, ht⟩
/-- sorted(d), d a dict of fewer than 64 numbers -/
def rSDI : List V → Hp → VK → Prop := fun xs H Q => ∃ (a : Addr) (kvs : List (L2.Key × V)) (ks : List Int), xs = [.ref a] ∧ Rd H a (.dK kvs) ∧ kvs.map (·.1) = ks.map Sum.inl ∧ ks.length < 64 ∧
    ∀ (ys : List Int) (p : Addr), ys.Perm ks → ys.Pairwise (· ≤ ·) → H p = none → Q (.ref p) (upd H p (.lst (ys.map V.int)))
def uSorted (K : PySem.W.Frag) : List V → Hp → VK → Prop := fun xs H Q => rSorted K xs H Q ∨ (rSortedPO K xs H Q ∨ (rSortedI K xs H Q ∨ rSDI xs H Q))
theorem cr_usorted {X : Cx} (hc : X.calm = true := by rfl) : CallR X (.builtin "sorted") (uSorted X.K) := cr_sorted.or (cr_sortedPO.or (cr_sortedI.or (call_sortedDI hc)))
theorem x_sortP {K : PySem.W.Frag} {H : Hp} {a : Addr} {xs : List V} {l : List (Int × Int)} {Q : VK} (h : SqL K H a xs) (hx : PairL H xs l) (q : ∀ p ys H', H p = none → Same H H' → H' p = some (.lst ys) → PairL H' ys (sortP l) → Q (.ref p) H') : uSorted K [.ref a] H Q := by
  refine .inr (.inl ⟨a, xs, pairV H, rfl, h, fun x m => hx.mem m, fun ys p hs hb hp => ?_⟩)
  have hm : ys.map (pairV H) = sortP l := sortP_eq (by rw [← hx.map]; exact hb.perm.map _) (List.pairwise_map.mpr (hs.imp fun {a b} z => by
    unfold leP
    rw [show SrtO.lexB (pairV H b) (pairV H a) = false from z]
    rfl))
  refine q p ys _ hp (same_upd hp) upd_same ⟨by rw [← hm, List.length_map], fun i x e h1 h2 => ?_⟩
  rw [← hm, List.getElem?_map, h1] at h2
  simp at h2
  subst h2
  obtain ⟨t, e1, ht⟩ := hx.mem (hb.perm.mem_iff.mp (List.mem_of_getElem? h1))
  exact ⟨t, e1, same_upd hp _ _ ht⟩
/-! sorted numbers -/
/-! a comprehension over the keys of a dict -/
/-! a loop over the values of a dict, which is locked meanwhile -/
/-! min of a list of pairs of numbers -/
section
variable {prog : Program} {w : World} {A : Around} {R : Result → Shared → Prop} {I : Addr} {fp wr : List Addr} {n : Nat} {P : Nat → Value → Prop} {St : Nat → Heap → Prop}
/-- what stays but for the walk's own and the list at S -/
def KeepsB (wr : List Addr) (S : Addr) (h0 h : Heap) : Prop := ∀ b o, b ∉ wr → b ≠ S → h0.get? b = some o → h.get? b = some o
theorem KeepsB.put {S : Addr} {h0 h : Heap} {f : Obj → Obj} (a : KeepsB wr S h0 h) : KeepsB wr S h0 (h.update S f) := fun b o n1 n2 e => (Heap.get?_update_other _ _ (Ne.symm n2)).trans (a b o n1 n2 e)
end
/-! ### built-in calls -/
section
variable {X : Cx}
def uMax (K : PySem.W.Frag) : List V → Hp → VK → Prop := fun xs H Q => (∃ i j, xs = [.int i, .int j] ∧ Q (.int (if j > i then j else i)) H) ∨ rMax K xs H Q
def uMin (K : PySem.W.Frag) : List V → Hp → VK → Prop := fun xs H Q => (∃ i j, xs = [.int i, .int j] ∧ Q (.int (if j < i then j else i)) H) ∨ rMin K xs H Q
def uList (K : PySem.W.Frag) : List V → Hp → VK → Prop := fun xs H Q => (∃ p ys, xs = [.ref p] ∧ (SqL K H p ys ∨ SqT K H p ys) ∧ ∀ l, H l = none → Q (.ref l) (upd H l (.lst ys))) ∨ rListD xs H Q
theorem ct_list (hc : X.calm = true := by rfl) : CallR X (.type "list") (uList X.K) := call_list_of.or (call_list_dK hc)
def uTup (K : PySem.W.Frag) : List V → Hp → VK → Prop := fun xs H Q => ∃ x, xs = [x] ∧ kTup K x H Q
def uInt : List V → Hp → VK → Prop := fun xs H Q => (∃ i, xs = [.int i] ∧ Q (.int i) H) ∨ ∃ k, xs = [.bl k] ∧ Q (.int (if k then 1 else 0)) H
theorem bt_sorted : bootBuiltins "sorted" = some (.builtin "sorted") := by decide +kernel
def uLen (K : PySem.W.Frag) : List V → Hp → VK → Prop := fun xs H Q => (∃ p ys, xs = [.ref p] ∧ (SqL K H p ys ∨ SqT K H p ys) ∧ Q (.int ys.length) H) ∨ ((∃ z, xs = [.str z] ∧ z.length ≤ sizeLine ∧ Q (.int z.length) H) ∨ (∃ a kvs, xs = [V.ref a] ∧ H a = some (.dK kvs) ∧ Q (.int kvs.length) H))
theorem cr_ulen : CallR X (.builtin "len") (uLen X.K) := call_len_seq.or (call_len_str.or call_lenD)
def uIsi (K : PySem.W.Frag) : List V → Hp → VK → Prop := rIsi K
theorem cr_uisinstance : CallR X (.builtin "isinstance") (uIsi X.K) := call_isi
def uStr : List V → Hp → VK → Prop := fun xs H Q => ∃ i, xs = [.int i] ∧ i.natAbs.log2 < 1920 ∧ Q (.str (toString i)) H
theorem bt_isinstance : bootBuiltins "isinstance" = some (.builtin "isinstance") := by decide +kernel
theorem bt_int : bootBuiltins "int" = some (.type "int") := by decide +kernel
theorem bt_bool : bootBuiltins "bool" = some (.type "bool") := by decide +kernel
theorem bt_list : bootBuiltins "list" = some (.type "list") := by decide +kernel
theorem bt_len : bootBuiltins "len" = some (.builtin "len") := by decide +kernel
end
section
variable {σ : L2.St} {H : Hp} {K : PySem.W.Frag} {Q : VK} {p : Addr} {xs : List V} {n : Int} {v : V}
theorem x_lenL (h : SqL K H p xs) (q : Q (.int xs.length) H) : uLen K [.ref p] H Q := .inl ⟨p, xs, rfl, .inl h, q⟩
theorem x_lenM {α : Type} {l : List α} {f : α → V} (h : SqL K H p (l.map f)) (q : Q (.int l.length) H) : uLen K [.ref p] H Q := .inl ⟨p, _, rfl, .inl h, by rw [List.length_map]; exact q⟩
theorem x_lenT (h : SqT K H p xs) (q : Q (.int xs.length) H) : uLen K [.ref p] H Q := .inl ⟨p, xs, rfl, .inr h, q⟩
/-- the built-in class of a value -/
def tyN : V → Option String
  | .non => some "NoneType" | .bl _ => some "bool" | .int _ => some "int" | .str _ => some "str" | .flt _ => some "float" | _ => none
theorem x_isiV {c : String} {t : String} {b : Bool} (ht : tyN v = some t) (hk : kitB t c = some b) (q : Q (.bl b) H) : uIsi K [v, .ty c] H Q := by
  have ty : TyX K H v (.type t) := by
    cases v <;> simp only [tyN, Option.some.injEq, reduceCtorEq] at ht <;> subst ht
    · exact .base .non
    · exact .base (.bl _)
    · exact .base (.int _)
    · exact .base (.str _)
    · exact .base (.flt _)
  exact ⟨v, .ty c, .type t, .type c, b, rfl, .ty c, ty, kit_ty hk, q⟩
theorem x_isiR {c t : String} {b : Bool} (ty : TyX K H (.ref p) (.type t)) (hk : kitB t c = some b) (q : Q (.bl b) H) : uIsi K [.ref p, .ty c] H Q :=
  ⟨.ref p, .ty c, .type t, .type c, b, rfl, .ty c, ty, kit_ty hk, q⟩
theorem x_isiNon_int (q : Q (.bl false) H) : uIsi K [V.non, .ty "int"] H Q := x_isiV rfl (by decide +kernel) q
theorem x_isiNon_bool (q : Q (.bl false) H) : uIsi K [V.non, .ty "bool"] H Q := x_isiV rfl (by decide +kernel) q
theorem x_isiNon_str (q : Q (.bl false) H) : uIsi K [V.non, .ty "str"] H Q := x_isiV rfl (by decide +kernel) q
theorem x_isiNon_list (q : Q (.bl false) H) : uIsi K [V.non, .ty "list"] H Q := x_isiV rfl (by decide +kernel) q
theorem x_isiNon_tuple (q : Q (.bl false) H) : uIsi K [V.non, .ty "tuple"] H Q := x_isiV rfl (by decide +kernel) q
theorem x_isiNon_dict (q : Q (.bl false) H) : uIsi K [V.non, .ty "dict"] H Q := x_isiV rfl (by decide +kernel) q
theorem x_isiBl_int {b : Bool} (q : Q (.bl true) H) : uIsi K [(V.bl b), .ty "int"] H Q := x_isiV rfl (by decide +kernel) q
theorem x_isiBl_bool {b : Bool} (q : Q (.bl true) H) : uIsi K [(V.bl b), .ty "bool"] H Q := x_isiV rfl (by decide +kernel) q
theorem x_isiBl_str {b : Bool} (q : Q (.bl false) H) : uIsi K [(V.bl b), .ty "str"] H Q := x_isiV rfl (by decide +kernel) q
theorem x_isiBl_list {b : Bool} (q : Q (.bl false) H) : uIsi K [(V.bl b), .ty "list"] H Q := x_isiV rfl (by decide +kernel) q
theorem x_isiBl_tuple {b : Bool} (q : Q (.bl false) H) : uIsi K [(V.bl b), .ty "tuple"] H Q := x_isiV rfl (by decide +kernel) q
theorem x_isiBl_dict {b : Bool} (q : Q (.bl false) H) : uIsi K [(V.bl b), .ty "dict"] H Q := x_isiV rfl (by decide +kernel) q
theorem x_isiInt_int (q : Q (.bl true) H) : uIsi K [(V.int n), .ty "int"] H Q := x_isiV rfl (by decide +kernel) q
theorem x_isiInt_bool (q : Q (.bl false) H) : uIsi K [(V.int n), .ty "bool"] H Q := x_isiV rfl (by decide +kernel) q
theorem x_isiInt_str (q : Q (.bl false) H) : uIsi K [(V.int n), .ty "str"] H Q := x_isiV rfl (by decide +kernel) q
theorem x_isiInt_list (q : Q (.bl false) H) : uIsi K [(V.int n), .ty "list"] H Q := x_isiV rfl (by decide +kernel) q
theorem x_isiInt_tuple (q : Q (.bl false) H) : uIsi K [(V.int n), .ty "tuple"] H Q := x_isiV rfl (by decide +kernel) q
theorem x_isiInt_dict (q : Q (.bl false) H) : uIsi K [(V.int n), .ty "dict"] H Q := x_isiV rfl (by decide +kernel) q
theorem x_isiStr_int {z : Str} (q : Q (.bl false) H) : uIsi K [(V.str z), .ty "int"] H Q := x_isiV rfl (by decide +kernel) q
theorem x_isiStr_bool {z : Str} (q : Q (.bl false) H) : uIsi K [(V.str z), .ty "bool"] H Q := x_isiV rfl (by decide +kernel) q
theorem x_isiStr_str {z : Str} (q : Q (.bl true) H) : uIsi K [(V.str z), .ty "str"] H Q := x_isiV rfl (by decide +kernel) q
theorem x_isiStr_list {z : Str} (q : Q (.bl false) H) : uIsi K [(V.str z), .ty "list"] H Q := x_isiV rfl (by decide +kernel) q
theorem x_isiStr_tuple {z : Str} (q : Q (.bl false) H) : uIsi K [(V.str z), .ty "tuple"] H Q := x_isiV rfl (by decide +kernel) q
theorem x_isiStr_dict {z : Str} (q : Q (.bl false) H) : uIsi K [(V.str z), .ty "dict"] H Q := x_isiV rfl (by decide +kernel) q
theorem x_isiLst_int (h : H p = some (.lst xs)) (q : Q (.bl false) H) : uIsi K [.ref p, .ty "int"] H Q := x_isiR (.base (.lst h)) (by decide +kernel) q
theorem x_isiLst_bool (h : H p = some (.lst xs)) (q : Q (.bl false) H) : uIsi K [.ref p, .ty "bool"] H Q := x_isiR (.base (.lst h)) (by decide +kernel) q
theorem x_isiLst_str (h : H p = some (.lst xs)) (q : Q (.bl false) H) : uIsi K [.ref p, .ty "str"] H Q := x_isiR (.base (.lst h)) (by decide +kernel) q
theorem x_isiLst_list (h : H p = some (.lst xs)) (q : Q (.bl true) H) : uIsi K [.ref p, .ty "list"] H Q := x_isiR (.base (.lst h)) (by decide +kernel) q
theorem x_isiLst_tuple (h : H p = some (.lst xs)) (q : Q (.bl false) H) : uIsi K [.ref p, .ty "tuple"] H Q := x_isiR (.base (.lst h)) (by decide +kernel) q
theorem x_isiLst_dict (h : H p = some (.lst xs)) (q : Q (.bl false) H) : uIsi K [.ref p, .ty "dict"] H Q := x_isiR (.base (.lst h)) (by decide +kernel) q
theorem x_isiTup_int (h : H p = some (.tup xs)) (q : Q (.bl false) H) : uIsi K [.ref p, .ty "int"] H Q := x_isiR (.base (.tup h)) (by decide +kernel) q
theorem x_isiTup_bool (h : H p = some (.tup xs)) (q : Q (.bl false) H) : uIsi K [.ref p, .ty "bool"] H Q := x_isiR (.base (.tup h)) (by decide +kernel) q
theorem x_isiTup_str (h : H p = some (.tup xs)) (q : Q (.bl false) H) : uIsi K [.ref p, .ty "str"] H Q := x_isiR (.base (.tup h)) (by decide +kernel) q
theorem x_isiTup_list (h : H p = some (.tup xs)) (q : Q (.bl false) H) : uIsi K [.ref p, .ty "list"] H Q := x_isiR (.base (.tup h)) (by decide +kernel) q
theorem x_isiTup_tuple (h : H p = some (.tup xs)) (q : Q (.bl true) H) : uIsi K [.ref p, .ty "tuple"] H Q := x_isiR (.base (.tup h)) (by decide +kernel) q
theorem x_isiTup_dict (h : H p = some (.tup xs)) (q : Q (.bl false) H) : uIsi K [.ref p, .ty "dict"] H Q := x_isiR (.base (.tup h)) (by decide +kernel) q
theorem x_isiDk_int {kvs : List (Key × V)} (h : H p = some (.dK kvs)) (q : Q (.bl false) H) : uIsi K [.ref p, .ty "int"] H Q := x_isiR (.base (.dK h)) (by decide +kernel) q
theorem x_isiDk_bool {kvs : List (Key × V)} (h : H p = some (.dK kvs)) (q : Q (.bl false) H) : uIsi K [.ref p, .ty "bool"] H Q := x_isiR (.base (.dK h)) (by decide +kernel) q
theorem x_isiDk_str {kvs : List (Key × V)} (h : H p = some (.dK kvs)) (q : Q (.bl false) H) : uIsi K [.ref p, .ty "str"] H Q := x_isiR (.base (.dK h)) (by decide +kernel) q
theorem x_isiDk_list {kvs : List (Key × V)} (h : H p = some (.dK kvs)) (q : Q (.bl false) H) : uIsi K [.ref p, .ty "list"] H Q := x_isiR (.base (.dK h)) (by decide +kernel) q
theorem x_isiDk_tuple {kvs : List (Key × V)} (h : H p = some (.dK kvs)) (q : Q (.bl false) H) : uIsi K [.ref p, .ty "tuple"] H Q := x_isiR (.base (.dK h)) (by decide +kernel) q
theorem x_isiDk_dict {kvs : List (Key × V)} (h : H p = some (.dK kvs)) (q : Q (.bl true) H) : uIsi K [.ref p, .ty "dict"] H Q := x_isiR (.base (.dK h)) (by decide +kernel) q
theorem x_intB {b : Bool} (q : Q (.int (if b then 1 else 0)) H) : uInt [.bl b] H Q := .inr ⟨b, rfl, q⟩
theorem x_intI {m : Int} (q : Q (.int m) H) : uInt [.int m] H Q := .inl ⟨m, rfl, q⟩
theorem x_max2 {m n : Int} (q : Q (.int (if n > m then n else m)) H) : uMax K [.int m, .int n] H Q := .inl ⟨m, n, rfl, q⟩
theorem x_min2 {m n : Int} (q : Q (.int (if n < m then n else m)) H) : uMin K [.int m, .int n] H Q := .inl ⟨m, n, rfl, q⟩
theorem x_list (h : SqL K H p xs) (q : New H Q (.lst xs)) : uList K [.ref p] H Q := .inl ⟨p, xs, rfl, .inl h, q.mk⟩
theorem x_tupL (h : SqL K H p xs) (q : New H Q (.tup xs)) : uTup K [.ref p] H Q := ⟨_, rfl, .inl ⟨p, xs, rfl, h, q.mk⟩⟩
theorem x_listD {kvs : List (L2.Key × V)} (h : H p = some (.dK kvs)) (q : New H Q (.lst (kvs.map fun kv => kV kv.1))) : uList K [.ref p] H Q := .inr ⟨p, kvs, rfl, h, q.mk⟩
theorem x_lenD {kvs : List (L2.Key × V)} (h : H p = some (.dK kvs)) (q : Q (.int kvs.length) H) : uLen K [.ref p] H Q := .inr (.inr ⟨p, kvs, rfl, h, q⟩)
theorem x_str (q : Q (.str (toString n)) H) (h : n.natAbs.log2 < 1920) : uStr [.int n] H Q := ⟨n, rfl, h, q⟩
end
/-! ### the same rules where K is told (inside a comprehension) -/
section
variable {X : Cx} {K : PySem.W.Frag} {a b e : Expr} {rest : List Expr} {ta tb : TE} {pos : Pos} {f : Str}
theorem K_ix (hK : X.K = K := by rfl) : IxR X (rIx K) := hK ▸ ix_seq
theorem K_add (hK : X.K = K := by rfl) : OpR X (binaryOp .Add) (uAdd K) := hK ▸ op_uAdd
theorem K_eq (hu : X.A.units + 64 < cLine) (hK : X.K = K := by rfl) : OpR X (compareOp .Eq) (uEq K) := hK ▸ op_uEq hu
theorem K_in (hK : X.K = K := by rfl) : OpR X (compareOp .In) (uIn K) := hK ▸ op_uIn
theorem K_fld (he : PE X e ta) (hb : attributeBase e f X.env (eval e X.env) = eval e X.env) (hK : X.K = K := by rfl) : PE X (.Attribute e f pos) (tFld K ta f) := hK ▸ pe_fld he hb
theorem K_ulen (hK : X.K = K := by rfl) : CallR X (.builtin "len") (uLen K) := hK ▸ cr_ulen
theorem K_gtup {K : PySem.W.Frag} {es : List Expr} {k : Nat} {ts : TGs} {n : Nat} {pos : Pos} (hc : X.calm = true) (h : PGs X es ts) (hn : (assignEach es X.env).length = n := by rfl) (hst : (assignEach es X.env).findIdx? (·.1) = none := by rfl) (hK : X.K = K := by rfl) : PG X (.Tuple es k pos) (gTup K n ts) := hK ▸ pg_tup hc h hn hst
theorem K_list (hK : X.K = K := by rfl) (hc : X.calm = true := by rfl) : CallR X (.type "list") (uList K) := hK ▸ ct_list hc
end
/-! sorted(d.items()), d a dict from whole numbers to whole numbers -/
/-! ### min(xs, default=d), max(xs, default=d); Base.__init__(self, ..) -/
section
theorem alike_ints (ns : List Int) : PySem.W.AlikeAll (ns.map PyData.int) := by
  constructor
  · intro x hx y hy
    obtain ⟨a, _, rfl⟩ := List.mem_map.mp hx
    obtain ⟨b, _, rfl⟩ := List.mem_map.mp hy
    rfl
  · intro x hx
    obtain ⟨a, _, rfl⟩ := List.mem_map.mp hx
    exact fun z => nomatch z
theorem depth_ints : ∀ ns : List Int, PyData.depthAll (ns.map PyData.int) = 0
  | [] => by simp [PyData.depthAll]
  | n :: ns => by
    rw [List.map_cons, PyData.depthAll, depth_ints ns]
    simp [PyData.depth]
end
/-! isinstance(x, C) of an own instance -/
/-! ### a caught exception as an object that is tracked -/
section
/-- the object at a is oe -/
def PinO (a : Addr) (oe : Obj) : HO := .ext fun h => h.get? a = some oe
/-- an exception of the class cls, its own dict at d -/
def ExV (H : Hp) (a : Addr) (cls : Value) (d : Option Addr) : Prop := ∃ oe, H a = some (PinO a oe) ∧ Zc cls d oe ∧ ∃ vs, oe.data = .fields vs
theorem ExV.mono {H H' : Hp} {a : Addr} {cls : Value} {d : Option Addr} (s : Same H H') (h : ExV H a cls d) : ExV H' a cls d := by
  obtain ⟨oe, e, r⟩ := h
  exact ⟨oe, s _ _ e, r⟩
variable {X : Cx} {pins : List (Addr × Obj)} {σ : L2.St} {H : Hp} {s sI : Shared}
end
section
variable {X : Cx} {x n : Str} {c : Value} {i : Nat} {body suite : List Stmt} {b₀ : Stmt} {np pos pos' : Pos} {tb : WX → TS} {ts : TS} {Wout : WX}
def wAsK (K : PySem.W.Frag) (c : Value) (i : Nat) (ts : TS) (Wout : WX) (D : Ends) : WX := fun cls d σ H =>
  ∃ b, PySem.W.exmOne K cls c = some b ∧ (b = true → ∀ a oe, H a = none → Zc cls d oe → (∃ vs, oe.data = .fields vs) → ts { nx := fun σ' H' => D.nx (σ'.set i none) H', rt := D.rt, bk := fun σ' H' => D.bk (σ'.set i none) H', ct := fun σ' H' => D.ct (σ'.set i none) H' } (σ.set i (some (.ref a))) (upd H a (PinO a oe))) ∧
    (b = false → Wout cls d σ H)
def tTryK (K : PySem.W.Frag) (c : Value) (i : Nat) (tb : WX → TS) (ts : TS) (Wout : WX) : TS := fun D σ H => tb (wAsK K c i ts Wout D) D σ H
variable {K : PySem.W.Frag} {D : Ends} {σ : L2.St} {H : Hp} {cls : Value} {d : Option Addr}
theorem x_tryK (h : tb (wAsK K c i ts Wout D) D σ H) : tTryK K c i tb ts Wout D σ H := h
theorem x_seqTK {u : TS} (h : tTryK K c i tb ts Wout { D with nx := u D } σ H) : tSeq (tTryK K c i tb ts Wout) u D σ H := h
end
/-! a def that is called in an except suite -/
section
open L2H
variable {X : Cx} {CX : CXT} {k : Nat} {f : Addr} {fd : FuncData} {ps : List Str} {sp : Sp} {E : L2.St → XK} {x : Str} {q pos : Pos} {e : Expr} {es : List Expr} {t : TA}
/-- isinstance(e, c), e an exception without fields that is tracked -/
def rIsV (K : PySem.W.Frag) : List V → Hp → VK → Prop := fun xs H Q => ∃ (a E : Addr) (c : V) (cv : Value) (b : Bool), xs = [.ref a, c] ∧ ExV H a (.ref E) none ∧ ExcC K E ∧ (∀ u, RelV c u → u = cv) ∧ PySem.W.kitOne K (.ref E) cv = some b ∧ Q (.bl b) H
variable {K : PySem.W.Frag} {H : Hp} {Q : VK} {a : Addr}
theorem ExV.off1 {H H' : Hp} {a p : Addr} {cls : Value} {d : Option Addr} (s : Off [p] H H') (h : ExV H a cls d) (n : a ≠ p) : ExV H' a cls d := by
  obtain ⟨oe, e, r⟩ := h
  exact ⟨oe, s.at e (nin_of n), r⟩
theorem x_isVC {E C : Addr} {b : Bool} (h : ExV H a (.ref E) none) (hE : ExcC K E) (hk : PySem.W.kitOne K (.ref E) (.ref C) = some b) (q : Q (.bl b) H) : rIsV K [.ref a, .ref C] H Q := ⟨a, E, _, .ref C, b, rfl, h, hE, fun _ z => z, hk, q⟩
theorem x_isVT {E : Addr} {t : String} {b : Bool} (h : ExV H a (.ref E) none) (hE : ExcC K E) (hk : PySem.W.kitOne K (.ref E) (.type t) = some b) (q : Q (.bl b) H) : rIsV K [.ref a, .ty t] H Q := ⟨a, E, _, .type t, b, rfl, h, hE, fun _ z => z, hk, q⟩
end
end Kit
/-! ### the head's facts, read by a Hook of one's own -/
namespace Kit
open PySem PySem.Spec PyProof.Rows L2
section
abbrev FnWK : Type := Bool × List He.FnW
/-- lists of numbers, a part of the heap: told when they are made -/
def frList {α : Type} : List Addr → (List Addr → α) → α
  | [], k => k []
  | a :: r, k => HandSHeadRun.frNat a fun a => frList r fun r => k (a :: r)
theorem frList_eq {α : Type} : ∀ (l : List Addr) (k : List Addr → α), frList l k = k l
  | [], _ => rfl
  | a :: r, k => by
    show HandSHeadRun.frNat a (fun a => frList r fun r => k (a :: r)) = _
    rw [HandSHeadRun.frNat_eq, frList_eq r]
def frFr {α : Type} (g : Addr → Option Obj) : List Addr → (PySem.W.Frag → α) → α
  | [], k => k []
  | a :: r, k => match g a with
    | some ⟨c, d, dt, sl⟩ => frFr g r fun F => k ((a, ⟨c, d, dt, sl⟩) :: F)
    | none => frFr g r k
theorem frFr_eq {α : Type} {g : Addr → Option Obj} : ∀ (l : List Addr) (k : PySem.W.Frag → α), frFr g l k = k (He.frG g l)
  | [], _ => rfl
  | a :: r, k => by
    unfold frFr He.frG
    rw [List.filterMap_cons]
    cases h : g a with
    | none => exact frFr_eq r k
    | some o =>
      obtain ⟨c, d, dt, sl⟩ := o
      exact frFr_eq r _
/-- a def: its place in the list of addresses, its text -/
structure DefK where
  i : Nat
  name : Str
  qual : Str
  params : Arguments
  body : List Stmt
  scope : Scope
  dfl : List He.Dv := []
def fnKW (K : PySem.W.Frag) (a : Addr) : He.FnW := match K.lookup a with
  | some ⟨_, _, .func fd, _⟩ => some (fd.name, fd.qualname, fd.params, fd.body, fd.scope, fd.globals, fd.closure, fd.builtins)
  | _ => none
def DefK.val (d : DefK) : He.FnW := some (d.name, d.qual, d.params, .stmts d.body, d.scope, mainGlobals, [], builtinsNs)
def DefK.dvs (K : PySem.W.Frag) (d : DefK) : List V := d.dfl.map (He.Dv.v K)
def DefK.ok (K : PySem.W.Frag) (A : List Addr) (d : DefK) : Bool := PySem.W.keepIn K (.ref (A.getD d.i 0)) && (match K.lookup (A.getD d.i 0) with
  | some ⟨_, _, .func fd, _⟩ => PySem.W.codeIn K fd.code d.qual && (He.dflB K fd.defaults (d.dvs K) && He.kwdB K fd.kwdefaults [])
  | _ => false)
theorem DefK.funD {K : PySem.W.Frag} {A : List Addr} {d : DefK} (e : fnKW K (A.getD d.i 0) = d.val) (c : d.ok K A = true) : ∃ fd, FunD K d.name d.qual d.params d.body d.scope (d.dvs K) [] (A.getD d.i 0) fd := by
  obtain ⟨kp, c2⟩ := He.ba c
  unfold fnKW at e
  cases q : K.lookup (A.getD d.i 0) with
  | none =>
    rw [q] at c2
    cases c2
  | some o =>
    obtain ⟨oc, od, dt, osl⟩ := o
    rw [q] at c2 e
    cases dt with
    | func fd =>
      obtain ⟨n1, n2, n3, n4, n5, n6, n7, n8, n9, n10, n11, n12, n13, n14, n15⟩ := fd
      have e2 : (some (n1, n2, n3, n4, n5, n6, n7, n15) : He.FnW) = some (d.name, d.qual, d.params, .stmts d.body, d.scope, mainGlobals, [], builtinsNs) := e
      simp only [Option.some.injEq, Prod.mk.injEq] at e2
      obtain ⟨h1, h2, h3, h4, h5, h6, h7, h8⟩ := e2
      subst h1 h2 h3 h4 h5 h6 h7 h8
      have c3 : (PySem.W.codeIn K n13 d.qual && (He.dflB K n8 (d.dvs K) && He.kwdB K n9 [])) = true := c2
      obtain ⟨k1, k2⟩ := He.ba c3
      obtain ⟨k3, k4⟩ := He.ba k2
      exact ⟨_, ⟨oc, od, n8, n9, n10, n11, n12, n13, n14, osl, rfl, q, k1, He.dflB_ok k3, He.kwdB_ok k4⟩, kp⟩
    | _ => cases c2
abbrev FsK : Type := PySem.W.Frag → List Addr → Bool
def obsK (fs : FsK) (fn : List DefK) (K : PySem.W.Frag) (A : List Addr) : FnWK := (fs K A && fn.all fun d => d.ok K A, fn.map fun d => fnKW K (A.getD d.i 0))
def valK (fn : List DefK) : FnWK := (true, fn.map DefK.val)
def SaysK (fs : FsK) (fn : List DefK) (K : PySem.W.Frag) (A : List Addr) : Prop := obsK fs fn K A = valK fn
def obsKG (ls : (Addr → Option Obj) → List Addr) (fs : FsK) (fn : List DefK) (g : Addr → Option Obj) : FnWK := frList (ls g) fun A => frFr g A fun K => obsK fs fn K A
theorem obsKG_is {ls : (Addr → Option Obj) → List Addr} {fs : FsK} {fn : List DefK} {g : Addr → Option Obj} : obsKG ls fs fn g = obsK fs fn (He.frG g (ls g)) (ls g) := by
  unfold obsKG
  rw [frList_eq, frFr_eq]
def hookK (ls : (Addr → Option Obj) → List Addr) (fs : FsK) (fn : List DefK) : PySem.W.Hook where
  α := FnWK
  obs := fun s => obsKG ls fs fn s.heap.get?
  val := fun _ => valK fn
  says := fun _ h => ∃ (K : PySem.W.Frag) (A : List Addr), K.In h ∧ SaysK fs fn K A
  of := fun _ _ e => ⟨_, _, He.frG_in, obsKG_is.symm.trans e⟩
  keeps := fun _ _ _ ⟨K, A, hK, c⟩ k => ⟨K, A, PySem.W.Frag.In.keeps hK k, c⟩
theorem obsKG_eq {ls : (Addr → Option Obj) → List Addr} {fs : FsK} {fn : List DefK} {g : Addr → Option Obj} {s : Shared} (h : ∀ a, g a = s.heap.get? a) : obsKG ls fs fn g = (hookK ls fs fn).obs s := by
  have e : g = s.heap.get? := funext h
  rw [e] <;> rfl
variable {fs : FsK} {fn : List DefK} {K : PySem.W.Frag} {A : List Addr}
theorem SaysK.facts (c : SaysK fs fn K A) : fs K A = true := (He.ba (show (fs K A && fn.all fun d => d.ok K A) = true from congrArg (fun z : FnWK => z.1) c)).1
theorem SaysK.def_ (c : SaysK fs fn K A) (i : Nat) {d : DefK} (h : fn[i]? = some d := by rfl) : ∃ fd, FunD K d.name d.qual d.params d.body d.scope (d.dvs K) [] (A.getD d.i 0) fd := by
  have c2 := (He.ba (show (fs K A && fn.all fun d => d.ok K A) = true from congrArg (fun z : FnWK => z.1) c)).2
  have e : fn.map (fun d => fnKW K (A.getD d.i 0)) = fn.map DefK.val := congrArg (fun z : FnWK => z.2) c
  have e2 : (fn.map fun d => fnKW K (A.getD d.i 0))[i]? = (fn.map DefK.val)[i]? := by rw [e]
  rw [List.getElem?_map, List.getElem?_map, h] at e2
  exact DefK.funD (Option.some.inj e2) (List.all_eq_true.mp c2 d (List.mem_of_getElem? h))
/-! addresses of the program's objects -/
def gK (g : Addr → Option Obj) (x : Str) : Addr := match PySem.W.nsIn (He.frG g [mainGlobals]) mainGlobals x with
  | some (some (.ref a)) => a
  | _ => 0
def nsK (g : Addr → Option Obj) (a : Addr) : Addr := match g a with
  | some ⟨_, _, .cls cd, _⟩ => cd.ns
  | _ => 0
def mK (g : Addr → Option Obj) (c m : Str) : Addr := match PySem.W.nsIn (He.frG g [nsK g (gK g c)]) (nsK g (gK g c)) m with
  | some (some (.ref a)) => a
  | _ => 0
def cdK (g : Addr → Option Obj) (a : Addr) : Addr := match g a with
  | some ⟨_, _, .func fd, _⟩ => (match fd.code with
    | .ref b => b
    | _ => 0)
  | _ => 0
theorem funK_of {x qual : Str} {st : Stmt} {f : Addr} {fd : FuncData} {kws : List (Str × V)} (F : FunD K x qual (defArgs st) (defBody st) (defScope st) [] kws f fd) : L2.Fun K x qual st f fd := by
  obtain ⟨oc, od, dV, kV, doc, pm, an, cdv, ct, osl, e, l, c, hd, _⟩ := F.ex
  rcases hd with ⟨_, e2⟩ | ⟨e2, _⟩
  · subst e2
    exact ⟨⟨oc, od, kV, doc, pm, an, cdv, ct, osl, e, l, c⟩, F.kp⟩
  · exact absurd rfl e2
theorem walk_ofW {l : PySem.W.OpenLaw} {n k : Nat} {q : Program} {loose : List Str} {XP : (Str → Option Value) → Heap → Prop} {YP : World → Heap → Prop} {d : DefRec} {CX : World → CXT} {x : Str}
    (hn : l.most = some n) (hn2 : n ≤ sizeLine) (hdf : d.params.defaults = []) (hr : Room k callerA)
    (F : ∀ (w : World) (mg : Str → Option Value) (fa : Addr) (h : Heap), YP w h → h.Ns mainGlobals mg → mg d.name = some (.ref fa) →
      ∃ (K : PySem.W.Frag) (fd : FuncData) (sp : Sp), K.In h ∧ (∀ (s : Shared) (u : Value), BindsTo s fd ⟨[u], []⟩ [(x, u)]) ∧
        (∀ (H : Hp) (a : Addr) (ns : List Int), ns.length ≤ n → Only H → SqL K H a (ns.map V.int) → sp [.ref a] H (fun v _ => v = .bl true) fun _ _ _ => False) ∧
        ∀ base : Heap, K.In base → base.Ns mainGlobals mg → FnOk l.prog w K mg base (CX w) k fa fd [x] sp)
    (hCX : ∀ (w : World) (H : Hp) (s : Shared) (e : Value) (s' : Shared), CX w [] H s (fun _ _ _ => False) e s' → False) :
    PySem.W.WalkO q loose XP YP l.row.toRowW d [] (fun f vs => PySem.call f vs) := by
  refine Att.attach_call hn hdf fun w s₀ s₁ mg mb fa o pm cd doc a vs ns G Y ho hd hcd hmg hobj hints hlen hg => ?_
  obtain ⟨K, fd, sp, KX, hb, hsp, hF⟩ := F w mg fa _ Y G.T.g hmg
  exact law_call KX G.T.g G.T.b G.T.builtins G.T.nolimit hg hobj hints (Nat.le_trans hlen hn2) hr hF hb (fun H hO hS => hsp H a ns hlen hO hS) fun H e s' => hCX w H s₁ e s'
end
/-! ### a list comprehension in a def that is called in an except suite (my own rule; the kit's asks for calm) -/
/-! ### a suite that raises: exceptions whose context is known (my own rules) -/
end Kit
namespace Kit
open PySem PySem.Spec PyProof.Rows L2 LamX
/-! ### a lambda that is kept, and called later -/
/-! ### such a thing called by way of a field -/
/-! ### a def that hands out a lambda: its ends told with its names -/
/-! ### the head's facts with tables of code objects -/
end Kit
namespace My
open PySem L2 Kit
def top (i : Nat) : Stmt := PySem.Challenge.pw_wornpages_k73_whole_no_way_is_less.main.body.getD i (.Pass ⟨0, 0, 0, 0⟩)
abbrev s_is_whole : Stmt := top 4
abbrev N_is_whole : List Str := ["thing"]
theorem sc_is_whole : FnScope N_is_whole ["thing"] (defScope s_is_whole) := ⟨rfl, rfl, rfl, by decide +kernel, rfl, by decide +kernel, by decide +kernel⟩
abbrev s_is_within : Stmt := top 5
abbrev N_is_within : List Str := ["thing", "low", "high"]
theorem sc_is_within : FnScope N_is_within ["thing", "low", "high"] (defScope s_is_within) := ⟨rfl, rfl, rfl, by decide +kernel, rfl, by decide +kernel, by decide +kernel⟩
abbrev s_need_sheets : Stmt := top 7
abbrev N_need_sheets : List Str := ["row", "many", "sheet"]
theorem sc_need_sheets : FnScope N_need_sheets ["row", "many"] (defScope s_need_sheets) := ⟨rfl, rfl, rfl, by decide +kernel, rfl, by decide +kernel, by decide +kernel⟩
abbrev s_need_race : Stmt := top 8
abbrev N_need_race : List Str := ["blocks", "pages", "row", "more", "most"]
theorem sc_need_race : FnScope N_need_race ["blocks", "pages", "row", "more"] (defScope s_need_race) := ⟨rfl, rfl, rfl, by decide +kernel, rfl, by decide +kernel, by decide +kernel⟩
abbrev s_Bench_init : Stmt := inClass (top 9) 0
abbrev N_Bench_init : List Str := ["self", "blocks", "pages", "block"]
theorem sc_Bench_init : FnScope N_Bench_init ["self", "blocks", "pages"] (defScope s_Bench_init) := ⟨rfl, rfl, rfl, by decide +kernel, rfl, by decide +kernel, by decide +kernel⟩
abbrev s_Bench_copied : Stmt := inClass (top 9) 1
abbrev N_Bench_copied : List Str := ["self", "other", "stack"]
theorem sc_Bench_copied : FnScope N_Bench_copied ["self"] (defScope s_Bench_copied) := ⟨rfl, rfl, rfl, by decide +kernel, rfl, by decide +kernel, by decide +kernel⟩
abbrev s_Bench_empty_ones : Stmt := inClass (top 9) 2
abbrev N_Bench_empty_ones : List Str := ["self", "found", "k", "times", "block"]
theorem sc_Bench_empty_ones : FnScope N_Bench_empty_ones ["self"] (defScope s_Bench_empty_ones) := ⟨rfl, rfl, rfl, by decide +kernel, rfl, by decide +kernel, by decide +kernel⟩
abbrev s_Bench_begun : Stmt := inClass (top 9) 3
abbrev N_Bench_begun : List Str := ["self", "block", "stack"]
theorem sc_Bench_begun : FnScope N_Bench_begun ["self"] (defScope s_Bench_begun) := ⟨rfl, rfl, rfl, by decide +kernel, rfl, by decide +kernel, by decide +kernel⟩
abbrev s_Bench_is_ready : Stmt := inClass (top 9) 4
abbrev N_Bench_is_ready : List Str := ["self", "free"]
theorem sc_Bench_is_ready : FnScope N_Bench_is_ready ["self"] (defScope s_Bench_is_ready) := ⟨rfl, rfl, rfl, by decide +kernel, rfl, by decide +kernel, by decide +kernel⟩
abbrev s_Bench_lay_down : Stmt := inClass (top 9) 5
abbrev N_Bench_lay_down : List Str := ["self", "sheet", "stack", "block"]
theorem sc_Bench_lay_down : FnScope N_Bench_lay_down ["self", "sheet"] (defScope s_Bench_lay_down) := ⟨rfl, rfl, rfl, by decide +kernel, rfl, by decide +kernel, by decide +kernel⟩
abbrev s_Bench_choices : Stmt := inClass (top 9) 6
abbrev N_Bench_choices : List Str := ["self", "k"]
theorem sc_Bench_choices : FnScope N_Bench_choices ["self"] (defScope s_Bench_choices) := ⟨rfl, rfl, rfl, by decide +kernel, rfl, by decide +kernel, by decide +kernel⟩
abbrev s_Bench_clear_out : Stmt := inClass (top 9) 7
abbrev N_Bench_clear_out : List Str := ["self", "block", "moved", "sheet"]
theorem sc_Bench_clear_out : FnScope N_Bench_clear_out ["self", "block"] (defScope s_Bench_clear_out) := ⟨rfl, rfl, rfl, by decide +kernel, rfl, by decide +kernel, by decide +kernel⟩
abbrev s_least_from : Stmt := top 10
abbrev N_least_from : List Str := ["bench", "row", "at", "best", "block", "other", "moves", "rest"]
theorem sc_least_from : FnScope N_least_from ["bench", "row"] (defScope s_least_from) := ⟨rfl, rfl, rfl, by decide +kernel, rfl, by decide +kernel, by decide +kernel⟩
abbrev s_least_moves : Stmt := top 11
abbrev N_least_moves : List Str := ["blocks", "pages", "row"]
theorem sc_least_moves : FnScope N_least_moves ["blocks", "pages", "row"] (defScope s_least_moves) := ⟨rfl, rfl, rfl, by decide +kernel, rfl, by decide +kernel, by decide +kernel⟩
abbrev s__law_drawn : Stmt := top 13
abbrev N__law_drawn : List Str := ["_law_script", "_law_k", "_law_number"]
theorem sc__law_drawn : FnScope N__law_drawn ["_law_script", "_law_k"] (defScope s__law_drawn) := ⟨rfl, rfl, rfl, by decide +kernel, rfl, by decide +kernel, by decide +kernel⟩
abbrev s__law_race : Stmt := top 14
abbrev N__law_race : List Str := ["_law_script", "_law_blocks", "_law_pages", "_law_most", "_law_step", "_law_unlike", "_law_names", "_law_k", "_law_many"]
theorem sc__law_race : FnScope N__law_race ["_law_script"] (defScope s__law_race) := ⟨rfl, rfl, rfl, by decide +kernel, rfl, by decide +kernel, by decide +kernel⟩
abbrev s__law_new : Stmt := top 15
abbrev N__law_new : List Str := ["_law_blocks", "_law_pages", "_law_k"]
theorem sc__law_new : FnScope N__law_new ["_law_blocks", "_law_pages"] (defScope s__law_new) := ⟨rfl, rfl, rfl, by decide +kernel, rfl, by decide +kernel, by decide +kernel⟩
abbrev s__law_put : Stmt := top 16
abbrev N__law_put : List Str := ["_law_state", "_law_sheet", "_law_held", "_law_begun", "_law_k", "_law_clear"]
theorem sc__law_put : FnScope N__law_put ["_law_state", "_law_sheet"] (defScope s__law_put) := ⟨rfl, rfl, rfl, by decide +kernel, rfl, by decide +kernel, by decide +kernel⟩
abbrev s__law_live : Stmt := top 17
abbrev N__law_live : List Str := ["_law_state", "_law_block", "_law_sheet", "_law_stamp"]
theorem sc__law_live : FnScope N__law_live ["_law_state", "_law_block"] (defScope s__law_live) := ⟨rfl, rfl, rfl, by decide +kernel, rfl, by decide +kernel, by decide +kernel⟩
abbrev s__law_short : Stmt := top 18
abbrev N__law_short : List Str := ["_law_state", "_law_held", "_law_row"]
theorem sc__law_short : FnScope N__law_short ["_law_state"] (defScope s__law_short) := ⟨rfl, rfl, rfl, by decide +kernel, rfl, by decide +kernel, by decide +kernel⟩
abbrev s__law_ways : Stmt := top 19
abbrev N__law_ways : List Str := ["_law_state", "_law_found", "_law_block", "_law_row"]
theorem sc__law_ways : FnScope N__law_ways ["_law_state"] (defScope s__law_ways) := ⟨rfl, rfl, rfl, by decide +kernel, rfl, by decide +kernel, by decide +kernel⟩
abbrev s__law_cleared_out : Stmt := top 20
abbrev N__law_cleared_out : List Str := ["_law_state", "_law_block", "_law_moved", "_law_sheet"]
theorem sc__law_cleared_out : FnScope N__law_cleared_out ["_law_state", "_law_block"] (defScope s__law_cleared_out) := ⟨rfl, rfl, rfl, by decide +kernel, rfl, by decide +kernel, by decide +kernel⟩
abbrev s__law_way : Stmt := top 21
abbrev N__law_way : List Str := ["_law_blocks", "_law_pages", "_law_row", "_law_picks", "_law_state", "_law_moves", "_law_chosen", "_law_sheet", "_law_ways_here", "_law_block"]
theorem sc__law_way : FnScope N__law_way ["_law_blocks", "_law_pages", "_law_row", "_law_picks"] (defScope s__law_way) := ⟨rfl, rfl, rfl, by decide +kernel, rfl, by decide +kernel, by decide +kernel⟩
abbrev s_law : Stmt := top 22
abbrev N_law : List Str := ["_law_script", "_law_blocks", "_law_pages", "_law_row", "_law_found", "_law_turn", "_law_picks", "_law_k"]
theorem sc_law : FnScope N_law ["_law_script"] (defScope s_law) := ⟨rfl, rfl, rfl, by decide +kernel, rfl, by decide +kernel, by decide +kernel⟩
def fsK0 (K : PySem.W.Frag) (A : List Addr) : Bool := decide (PySem.W.nsIn K mainGlobals "is_whole" = some (some (.ref (A.getD 8 0)))) && (decide (PySem.W.nsIn K mainGlobals "is_within" = some (some (.ref (A.getD 9 0)))) && (decide (PySem.W.nsIn K mainGlobals "need_sheets" = some (some (.ref (A.getD 10 0)))) && (decide (PySem.W.nsIn K mainGlobals "need_race" = some (some (.ref (A.getD 11 0)))) && (decide (PySem.W.nsIn K mainGlobals "least_from" = some (some (.ref (A.getD 20 0)))) && (decide (PySem.W.nsIn K mainGlobals "least_moves" = some (some (.ref (A.getD 21 0)))) && (decide (PySem.W.nsIn K mainGlobals "_law_drawn" = some (some (.ref (A.getD 22 0)))) && (decide (PySem.W.nsIn K mainGlobals "_law_race" = some (some (.ref (A.getD 23 0)))) && (decide (PySem.W.nsIn K mainGlobals "_law_new" = some (some (.ref (A.getD 24 0)))) && (decide (PySem.W.nsIn K mainGlobals "_law_put" = some (some (.ref (A.getD 25 0)))) && (decide (PySem.W.nsIn K mainGlobals "_law_live" = some (some (.ref (A.getD 26 0)))) && (decide (PySem.W.nsIn K mainGlobals "_law_short" = some (some (.ref (A.getD 27 0)))) && (decide (PySem.W.nsIn K mainGlobals "_law_ways" = some (some (.ref (A.getD 28 0)))) && (decide (PySem.W.nsIn K mainGlobals "_law_cleared_out" = some (some (.ref (A.getD 29 0)))) && (decide (PySem.W.nsIn K mainGlobals "_law_way" = some (some (.ref (A.getD 30 0)))) && (decide (PySem.W.nsIn K mainGlobals "law" = some (some (.ref (A.getD 31 0)))) && (decide (PySem.W.nsIn K mainGlobals "Bench" = some (some (.ref (A.getD 2 0)))) && (PySem.W.plainGet K (A.getD 2 0) Str.empty && (PySem.W.hasDictIn K (A.getD 2 0) && (PySem.W.plainOver K (A.getD 2 0) && (decide (PySem.W.findIn K (.ref (A.getD 2 0)) "__setattr__" = some (some (.builtin "object.__setattr__"))) && (decide (PySem.W.findIn K (.ref (A.getD 2 0)) "pages" = some none) && (decide (PySem.W.findIn K (.ref (A.getD 2 0)) "stacks" = some none) && (decide (PySem.W.findIn K (.ref (A.getD 2 0)) "times" = some none) && (decide (PySem.W.findIn K (.ref (A.getD 2 0)) "__init__" = some (some (.ref (A.getD 12 0))))))))))))))))))))))))))))
theorem fsK0_ok {K : PySem.W.Frag} {A : List Addr} (h : fsK0 K A = true) : (PySem.W.nsIn K mainGlobals "is_whole" = some (some (.ref (A.getD 8 0)))) ∧ (PySem.W.nsIn K mainGlobals "is_within" = some (some (.ref (A.getD 9 0)))) ∧ (PySem.W.nsIn K mainGlobals "need_sheets" = some (some (.ref (A.getD 10 0)))) ∧ (PySem.W.nsIn K mainGlobals "need_race" = some (some (.ref (A.getD 11 0)))) ∧ (PySem.W.nsIn K mainGlobals "least_from" = some (some (.ref (A.getD 20 0)))) ∧ (PySem.W.nsIn K mainGlobals "least_moves" = some (some (.ref (A.getD 21 0)))) ∧ (PySem.W.nsIn K mainGlobals "_law_drawn" = some (some (.ref (A.getD 22 0)))) ∧ (PySem.W.nsIn K mainGlobals "_law_race" = some (some (.ref (A.getD 23 0)))) ∧ (PySem.W.nsIn K mainGlobals "_law_new" = some (some (.ref (A.getD 24 0)))) ∧ (PySem.W.nsIn K mainGlobals "_law_put" = some (some (.ref (A.getD 25 0)))) ∧ (PySem.W.nsIn K mainGlobals "_law_live" = some (some (.ref (A.getD 26 0)))) ∧ (PySem.W.nsIn K mainGlobals "_law_short" = some (some (.ref (A.getD 27 0)))) ∧ (PySem.W.nsIn K mainGlobals "_law_ways" = some (some (.ref (A.getD 28 0)))) ∧ (PySem.W.nsIn K mainGlobals "_law_cleared_out" = some (some (.ref (A.getD 29 0)))) ∧ (PySem.W.nsIn K mainGlobals "_law_way" = some (some (.ref (A.getD 30 0)))) ∧ (PySem.W.nsIn K mainGlobals "law" = some (some (.ref (A.getD 31 0)))) ∧ (PySem.W.nsIn K mainGlobals "Bench" = some (some (.ref (A.getD 2 0)))) ∧ (PySem.W.plainGet K (A.getD 2 0) Str.empty = true) ∧ (PySem.W.hasDictIn K (A.getD 2 0) = true) ∧ (PySem.W.plainOver K (A.getD 2 0) = true) ∧ (PySem.W.findIn K (.ref (A.getD 2 0)) "__setattr__" = some (some (.builtin "object.__setattr__"))) ∧ (PySem.W.findIn K (.ref (A.getD 2 0)) "pages" = some none) ∧ (PySem.W.findIn K (.ref (A.getD 2 0)) "stacks" = some none) ∧ (PySem.W.findIn K (.ref (A.getD 2 0)) "times" = some none) ∧ (PySem.W.findIn K (.ref (A.getD 2 0)) "__init__" = some (some (.ref (A.getD 12 0)))) := by
  unfold fsK0 at h
  obtain ⟨h0, h⟩ := He.ba h
  obtain ⟨h1, h⟩ := He.ba h
  obtain ⟨h2, h⟩ := He.ba h
  obtain ⟨h3, h⟩ := He.ba h
  obtain ⟨h4, h⟩ := He.ba h
  obtain ⟨h5, h⟩ := He.ba h
  obtain ⟨h6, h⟩ := He.ba h
  obtain ⟨h7, h⟩ := He.ba h
  obtain ⟨h8, h⟩ := He.ba h
  obtain ⟨h9, h⟩ := He.ba h
  obtain ⟨h10, h⟩ := He.ba h
  obtain ⟨h11, h⟩ := He.ba h
  obtain ⟨h12, h⟩ := He.ba h
  obtain ⟨h13, h⟩ := He.ba h
  obtain ⟨h14, h⟩ := He.ba h
  obtain ⟨h15, h⟩ := He.ba h
  obtain ⟨h16, h⟩ := He.ba h
  obtain ⟨h17, h⟩ := He.ba h
  obtain ⟨h18, h⟩ := He.ba h
  obtain ⟨h19, h⟩ := He.ba h
  obtain ⟨h20, h⟩ := He.ba h
  obtain ⟨h21, h⟩ := He.ba h
  obtain ⟨h22, h⟩ := He.ba h
  obtain ⟨h23, h⟩ := He.ba h
  exact ⟨of_decide_eq_true h0, of_decide_eq_true h1, of_decide_eq_true h2, of_decide_eq_true h3, of_decide_eq_true h4, of_decide_eq_true h5, of_decide_eq_true h6, of_decide_eq_true h7, of_decide_eq_true h8, of_decide_eq_true h9, of_decide_eq_true h10, of_decide_eq_true h11, of_decide_eq_true h12, of_decide_eq_true h13, of_decide_eq_true h14, of_decide_eq_true h15, of_decide_eq_true h16, h17, h18, h19, of_decide_eq_true h20, of_decide_eq_true h21, of_decide_eq_true h22, of_decide_eq_true h23, of_decide_eq_true h⟩
def fsK1 (K : PySem.W.Frag) (A : List Addr) : Bool := PySem.W.isFn K (.ref (A.getD 12 0)) && (PySem.W.makesIn K (A.getD 2 0) && (PySem.W.keepIn K (.ref (A.getD 2 0)) && (decide (PySem.W.findIn K (.ref (A.getD 2 0)) "copied" = some (some (.ref (A.getD 13 0)))) && (PySem.W.isFn K (.ref (A.getD 13 0)) && (decide (PySem.W.findIn K (.ref (A.getD 2 0)) "empty_ones" = some (some (.ref (A.getD 14 0)))) && (PySem.W.isFn K (.ref (A.getD 14 0)) && (decide (PySem.W.findIn K (.ref (A.getD 2 0)) "begun" = some (some (.ref (A.getD 15 0)))) && (PySem.W.isFn K (.ref (A.getD 15 0)) && (decide (PySem.W.findIn K (.ref (A.getD 2 0)) "is_ready" = some (some (.ref (A.getD 16 0)))) && (PySem.W.isFn K (.ref (A.getD 16 0)) && (decide (PySem.W.findIn K (.ref (A.getD 2 0)) "lay_down" = some (some (.ref (A.getD 17 0)))) && (PySem.W.isFn K (.ref (A.getD 17 0)) && (decide (PySem.W.findIn K (.ref (A.getD 2 0)) "choices" = some (some (.ref (A.getD 18 0)))) && (PySem.W.isFn K (.ref (A.getD 18 0)) && (decide (PySem.W.findIn K (.ref (A.getD 2 0)) "clear_out" = some (some (.ref (A.getD 19 0)))) && (PySem.W.isFn K (.ref (A.getD 19 0)) && (decide (PySem.W.nsIn K mainGlobals "WornError" = some (some (.ref (A.getD 3 0)))) && (PySem.W.excIn K (A.getD 3 0) [.type "ValueError", .type "Exception", .type "BaseException", .type "object"] "ValueError.__new__" && (PySem.W.keepIn K (.ref (A.getD 3 0)) && (decide (PySem.W.subIn K (.ref (A.getD 3 0)) (.type "BaseException") = some true) && (decide (PySem.W.typeIn K (.ref (A.getD 3 0)) = some (.type "type")) && (decide (PySem.W.nsIn K mainGlobals "NoRace" = some (some (.ref (A.getD 4 0)))) && (PySem.W.excIn K (A.getD 4 0) [.type "ValueError", .type "Exception", .type "BaseException", .type "object"] "ValueError.__new__" && (PySem.W.keepIn K (.ref (A.getD 4 0))))))))))))))))))))))))))
theorem fsK1_ok {K : PySem.W.Frag} {A : List Addr} (h : fsK1 K A = true) : (PySem.W.isFn K (.ref (A.getD 12 0)) = true) ∧ (PySem.W.makesIn K (A.getD 2 0) = true) ∧ (PySem.W.keepIn K (.ref (A.getD 2 0)) = true) ∧ (PySem.W.findIn K (.ref (A.getD 2 0)) "copied" = some (some (.ref (A.getD 13 0)))) ∧ (PySem.W.isFn K (.ref (A.getD 13 0)) = true) ∧ (PySem.W.findIn K (.ref (A.getD 2 0)) "empty_ones" = some (some (.ref (A.getD 14 0)))) ∧ (PySem.W.isFn K (.ref (A.getD 14 0)) = true) ∧ (PySem.W.findIn K (.ref (A.getD 2 0)) "begun" = some (some (.ref (A.getD 15 0)))) ∧ (PySem.W.isFn K (.ref (A.getD 15 0)) = true) ∧ (PySem.W.findIn K (.ref (A.getD 2 0)) "is_ready" = some (some (.ref (A.getD 16 0)))) ∧ (PySem.W.isFn K (.ref (A.getD 16 0)) = true) ∧ (PySem.W.findIn K (.ref (A.getD 2 0)) "lay_down" = some (some (.ref (A.getD 17 0)))) ∧ (PySem.W.isFn K (.ref (A.getD 17 0)) = true) ∧ (PySem.W.findIn K (.ref (A.getD 2 0)) "choices" = some (some (.ref (A.getD 18 0)))) ∧ (PySem.W.isFn K (.ref (A.getD 18 0)) = true) ∧ (PySem.W.findIn K (.ref (A.getD 2 0)) "clear_out" = some (some (.ref (A.getD 19 0)))) ∧ (PySem.W.isFn K (.ref (A.getD 19 0)) = true) ∧ (PySem.W.nsIn K mainGlobals "WornError" = some (some (.ref (A.getD 3 0)))) ∧ (PySem.W.excIn K (A.getD 3 0) [.type "ValueError", .type "Exception", .type "BaseException", .type "object"] "ValueError.__new__" = true) ∧ (PySem.W.keepIn K (.ref (A.getD 3 0)) = true) ∧ (PySem.W.subIn K (.ref (A.getD 3 0)) (.type "BaseException") = some true) ∧ (PySem.W.typeIn K (.ref (A.getD 3 0)) = some (.type "type")) ∧ (PySem.W.nsIn K mainGlobals "NoRace" = some (some (.ref (A.getD 4 0)))) ∧ (PySem.W.excIn K (A.getD 4 0) [.type "ValueError", .type "Exception", .type "BaseException", .type "object"] "ValueError.__new__" = true) ∧ (PySem.W.keepIn K (.ref (A.getD 4 0)) = true) := by
  unfold fsK1 at h
  obtain ⟨h0, h⟩ := He.ba h
  obtain ⟨h1, h⟩ := He.ba h
  obtain ⟨h2, h⟩ := He.ba h
  obtain ⟨h3, h⟩ := He.ba h
  obtain ⟨h4, h⟩ := He.ba h
  obtain ⟨h5, h⟩ := He.ba h
  obtain ⟨h6, h⟩ := He.ba h
  obtain ⟨h7, h⟩ := He.ba h
  obtain ⟨h8, h⟩ := He.ba h
  obtain ⟨h9, h⟩ := He.ba h
  obtain ⟨h10, h⟩ := He.ba h
  obtain ⟨h11, h⟩ := He.ba h
  obtain ⟨h12, h⟩ := He.ba h
  obtain ⟨h13, h⟩ := He.ba h
  obtain ⟨h14, h⟩ := He.ba h
  obtain ⟨h15, h⟩ := He.ba h
  obtain ⟨h16, h⟩ := He.ba h
  obtain ⟨h17, h⟩ := He.ba h
  obtain ⟨h18, h⟩ := He.ba h
  obtain ⟨h19, h⟩ := He.ba h
  obtain ⟨h20, h⟩ := He.ba h
  obtain ⟨h21, h⟩ := He.ba h
  obtain ⟨h22, h⟩ := He.ba h
  obtain ⟨h23, h⟩ := He.ba h
  exact ⟨h0, h1, h2, of_decide_eq_true h3, h4, of_decide_eq_true h5, h6, of_decide_eq_true h7, h8, of_decide_eq_true h9, h10, of_decide_eq_true h11, h12, of_decide_eq_true h13, h14, of_decide_eq_true h15, h16, of_decide_eq_true h17, h18, h19, of_decide_eq_true h20, of_decide_eq_true h21, of_decide_eq_true h22, h23, h⟩
def fsK2 (K : PySem.W.Frag) (A : List Addr) : Bool := decide (PySem.W.subIn K (.ref (A.getD 4 0)) (.type "BaseException") = some true) && (decide (PySem.W.typeIn K (.ref (A.getD 4 0)) = some (.type "type")) && (decide (PySem.W.nsIn K mainGlobals "len" = some none) && (decide (PySem.W.nsIn K mainGlobals "isinstance" = some none) && (decide (PySem.W.nsIn K mainGlobals "sorted" = some none) && (decide (PySem.W.nsIn K mainGlobals "int" = some none) && (decide (PySem.W.nsIn K mainGlobals "list" = some none) && (decide (PySem.W.nsIn K mainGlobals "bool" = some none) && (decide (PySem.W.nsIn K mainGlobals "set" = some none) && (decide (PySem.W.nsIn K mainGlobals "range" = some none) && (decide (PySem.W.nsIn K mainGlobals "enumerate" = some none) && (decide (PySem.W.nsIn K mainGlobals "ValueError" = some none))))))))))))
theorem fsK2_ok {K : PySem.W.Frag} {A : List Addr} (h : fsK2 K A = true) : (PySem.W.subIn K (.ref (A.getD 4 0)) (.type "BaseException") = some true) ∧ (PySem.W.typeIn K (.ref (A.getD 4 0)) = some (.type "type")) ∧ (PySem.W.nsIn K mainGlobals "len" = some none) ∧ (PySem.W.nsIn K mainGlobals "isinstance" = some none) ∧ (PySem.W.nsIn K mainGlobals "sorted" = some none) ∧ (PySem.W.nsIn K mainGlobals "int" = some none) ∧ (PySem.W.nsIn K mainGlobals "list" = some none) ∧ (PySem.W.nsIn K mainGlobals "bool" = some none) ∧ (PySem.W.nsIn K mainGlobals "set" = some none) ∧ (PySem.W.nsIn K mainGlobals "range" = some none) ∧ (PySem.W.nsIn K mainGlobals "enumerate" = some none) ∧ (PySem.W.nsIn K mainGlobals "ValueError" = some none) := by
  unfold fsK2 at h
  obtain ⟨h0, h⟩ := He.ba h
  obtain ⟨h1, h⟩ := He.ba h
  obtain ⟨h2, h⟩ := He.ba h
  obtain ⟨h3, h⟩ := He.ba h
  obtain ⟨h4, h⟩ := He.ba h
  obtain ⟨h5, h⟩ := He.ba h
  obtain ⟨h6, h⟩ := He.ba h
  obtain ⟨h7, h⟩ := He.ba h
  obtain ⟨h8, h⟩ := He.ba h
  obtain ⟨h9, h⟩ := He.ba h
  obtain ⟨h10, h⟩ := He.ba h
  exact ⟨of_decide_eq_true h0, of_decide_eq_true h1, of_decide_eq_true h2, of_decide_eq_true h3, of_decide_eq_true h4, of_decide_eq_true h5, of_decide_eq_true h6, of_decide_eq_true h7, of_decide_eq_true h8, of_decide_eq_true h9, of_decide_eq_true h10, of_decide_eq_true h⟩
def fsK (K : PySem.W.Frag) (A : List Addr) : Bool := fsK0 K A && (fsK1 K A && (fsK2 K A))
def fnK0 : List DefK := [⟨8, "is_whole", "is_whole", defArgs s_is_whole, defBody s_is_whole, defScope s_is_whole, []⟩,
  ⟨9, "is_within", "is_within", defArgs s_is_within, defBody s_is_within, defScope s_is_within, []⟩,
  ⟨10, "need_sheets", "need_sheets", defArgs s_need_sheets, defBody s_need_sheets, defScope s_need_sheets, []⟩,
  ⟨11, "need_race", "need_race", defArgs s_need_race, defBody s_need_race, defScope s_need_race, []⟩,
  ⟨12, "__init__", "Bench.__init__", defArgs s_Bench_init, defBody s_Bench_init, defScope s_Bench_init, []⟩,
  ⟨13, "copied", "Bench.copied", defArgs s_Bench_copied, defBody s_Bench_copied, defScope s_Bench_copied, []⟩,
  ⟨14, "empty_ones", "Bench.empty_ones", defArgs s_Bench_empty_ones, defBody s_Bench_empty_ones, defScope s_Bench_empty_ones, []⟩,
  ⟨15, "begun", "Bench.begun", defArgs s_Bench_begun, defBody s_Bench_begun, defScope s_Bench_begun, []⟩,
  ⟨16, "is_ready", "Bench.is_ready", defArgs s_Bench_is_ready, defBody s_Bench_is_ready, defScope s_Bench_is_ready, []⟩,
  ⟨17, "lay_down", "Bench.lay_down", defArgs s_Bench_lay_down, defBody s_Bench_lay_down, defScope s_Bench_lay_down, []⟩,
  ⟨18, "choices", "Bench.choices", defArgs s_Bench_choices, defBody s_Bench_choices, defScope s_Bench_choices, []⟩,
  ⟨19, "clear_out", "Bench.clear_out", defArgs s_Bench_clear_out, defBody s_Bench_clear_out, defScope s_Bench_clear_out, []⟩,
  ⟨20, "least_from", "least_from", defArgs s_least_from, defBody s_least_from, defScope s_least_from, []⟩,
  ⟨21, "least_moves", "least_moves", defArgs s_least_moves, defBody s_least_moves, defScope s_least_moves, []⟩,
  ⟨22, "_law_drawn", "_law_drawn", defArgs s__law_drawn, defBody s__law_drawn, defScope s__law_drawn, []⟩,
  ⟨23, "_law_race", "_law_race", defArgs s__law_race, defBody s__law_race, defScope s__law_race, []⟩,
  ⟨24, "_law_new", "_law_new", defArgs s__law_new, defBody s__law_new, defScope s__law_new, []⟩,
  ⟨25, "_law_put", "_law_put", defArgs s__law_put, defBody s__law_put, defScope s__law_put, []⟩,
  ⟨26, "_law_live", "_law_live", defArgs s__law_live, defBody s__law_live, defScope s__law_live, []⟩,
  ⟨27, "_law_short", "_law_short", defArgs s__law_short, defBody s__law_short, defScope s__law_short, []⟩]
def fnK1 : List DefK := [⟨28, "_law_ways", "_law_ways", defArgs s__law_ways, defBody s__law_ways, defScope s__law_ways, []⟩,
  ⟨29, "_law_cleared_out", "_law_cleared_out", defArgs s__law_cleared_out, defBody s__law_cleared_out, defScope s__law_cleared_out, []⟩,
  ⟨30, "_law_way", "_law_way", defArgs s__law_way, defBody s__law_way, defScope s__law_way, []⟩,
  ⟨31, "law", "law", defArgs s_law, defBody s_law, defScope s_law, []⟩]
def fnK : List DefK := fnK0 ++ (fnK1)
def nmK0 : List PySem.Str := ["WornError", "NoRace", "is_whole", "is_within", "need_sheets", "need_race", "Bench", "least_from", "least_moves", "_law_drawn", "_law_race", "_law_new", "_law_put", "_law_live", "_law_short", "_law_ways", "_law_cleared_out", "_law_way"]
def nmK : List PySem.Str := nmK0
abbrev RK : PySem.W.OpenRow := PySem.W.OpenLaw.row PySem.Challenge.rw_wornpages_k73_whole_no_way_is_less
abbrev qK : Program := PySem.W.view RK.prog [22]
def lsK0 (g : Addr → Option Obj) : List Addr := [mainGlobals, cStatics, gK g "Bench", gK g "WornError", gK g "NoRace", nsK g (gK g "Bench"), nsK g (gK g "WornError"), nsK g (gK g "NoRace"), gK g "is_whole", gK g "is_within", gK g "need_sheets", gK g "need_race", mK g "Bench" "__init__", mK g "Bench" "copied", mK g "Bench" "empty_ones", mK g "Bench" "begun", mK g "Bench" "is_ready", mK g "Bench" "lay_down", mK g "Bench" "choices", mK g "Bench" "clear_out"]
def lsK1 (g : Addr → Option Obj) : List Addr := [gK g "least_from", gK g "least_moves", gK g "_law_drawn", gK g "_law_race", gK g "_law_new", gK g "_law_put", gK g "_law_live", gK g "_law_short", gK g "_law_ways", gK g "_law_cleared_out", gK g "_law_way", gK g "law", cdK g (gK g "is_whole"), cdK g (gK g "is_within"), cdK g (gK g "need_sheets"), cdK g (gK g "need_race"), cdK g (mK g "Bench" "__init__"), cdK g (mK g "Bench" "copied"), cdK g (mK g "Bench" "empty_ones"), cdK g (mK g "Bench" "begun")]
def lsK2 (g : Addr → Option Obj) : List Addr := [cdK g (mK g "Bench" "is_ready"), cdK g (mK g "Bench" "lay_down"), cdK g (mK g "Bench" "choices"), cdK g (mK g "Bench" "clear_out"), cdK g (gK g "least_from"), cdK g (gK g "least_moves"), cdK g (gK g "_law_drawn"), cdK g (gK g "_law_race"), cdK g (gK g "_law_new"), cdK g (gK g "_law_put"), cdK g (gK g "_law_live"), cdK g (gK g "_law_short"), cdK g (gK g "_law_ways"), cdK g (gK g "_law_cleared_out"), cdK g (gK g "_law_way"), cdK g (gK g "law")]
def lsK (g : Addr → Option Obj) : List Addr := lsK0 g ++ (lsK1 g ++ (lsK2 g))
abbrev hkK : PySem.W.Hook := hookK lsK fsK fnK
def obK (s : PySem.W.SharedT) : FnWK := obsKG lsK fsK fnK (HandSHeadRun.getT s)
theorem obK_eq (s : PySem.W.SharedT) : obK s = hkK.obs s.abs := obsKG_eq (HandSHeadRun.getT_eq s)
theorem runK (w : World) : HandSHeadRun.RunEq RK qK hkK obK 20000 nmK w := by
  intro os
  kernel_rfl
def spLawE (K : PySem.W.Frag) : Sp := fun vs H Q _ => ∃ (a : Addr) (ns : List Int), vs = [.ref a] ∧ SqL K H a (ns.map V.int) ∧ ns.length ≤ 63 ∧ ∀ H', Q (.bl true) H'
def FinT : Prop := ∀ {w : World} {K : PySem.W.Frag} {h : Heap} {mg : Str → Option Value} {fa : Addr} {A : List Addr} (X : K.In h) (G : h.Ns mainGlobals mg) (hfa : mg "law" = some (.ref fa)) (c : SaysK fsK fnK K A),
    ∃ fd : FuncData, (∀ (s : Shared) (v : Value), BindsTo s fd ⟨[v], []⟩ [("_law_script", v)]) ∧ ∀ base : Heap, K.In base → base.Ns mainGlobals mg → FnOk (PySem.Challenge.rw_wornpages_k73_whole_no_way_is_less).prog w K mg base (L2.CX (PySem.Challenge.rw_wornpages_k73_whole_no_way_is_less).prog w) 40 fa fd ["_law_script"] (spLawE K)
end My
section
open PySem PySem.W PySem.Calls PyProof.Rows
theorem My.finE (hFin : My.FinT) : PySem.Challenge.rw_wornpages_k73_whole_no_way_is_less.Holds := by
  w_on; o_law
  refine HandSHeadRun.head_any (r := My.RK) (q := My.qK) (H := My.hkK) (ob := My.obK) (M := 20000) (loose := My.nmK) (d := HandSHeadRun.topDef My.RK.prog 22) (kwd := []) My.obK_eq
    (by kernel_rfl) (fun s => by kernel_rfl) My.runK (by kernel_rfl) (by kernel_rfl) (by kernel_rfl) (by rfl) (by first | assumption | decide +kernel) (by decide +kernel) ⟨rfl, rfl, rfl, rfl, rfl, by decide +kernel⟩ ?hw ?hc
  case hw => w_witness2
  case hc =>
    refine Kit.walk_ofW (l := PySem.Challenge.rw_wornpages_k73_whole_no_way_is_less) (n := 63) (k := 40) (x := "_law_script") (CX := fun w => L2.CX (PySem.Challenge.rw_wornpages_k73_whole_no_way_is_less).prog w) rfl (by decide) (by kernel_rfl) ⟨rfl, by decide, by decide⟩ ?F ?X
    case X =>
      intro w H s e s' z
      obtain ⟨_, _, _, _, _, _, _, _, _, _, _, _, z⟩ := z
      exact z.elim
    intro w mg fa h Y G hmg0
    obtain ⟨K, A, KX, c⟩ := Y
    have hmg : mg ("law" : PySem.Str) = some (.ref fa) := by
      have e : (HandSHeadRun.topDef My.RK.prog 22).name = ("law" : PySem.Str) := by kernel_rfl
      rw [← e]
      exact hmg0
    obtain ⟨fd, hb, hF⟩ := hFin (w := w) KX G hmg c
    exact ⟨K, fd, My.spLawE K, KX, hb, fun H a ns hl _ hS => ⟨a, ns, rfl, hS, hl, fun _ => rfl⟩, hF⟩
end
namespace My
open PySem L2 Kit
/-! steps of a reading: "s" one step, "go" as far as it goes -/
local macro_rules | `(tactic| walk_at "sq") => `(tactic| first | assumption | exact SqL.of (by assumption) | exact SqT.of (by assumption) | (refine' Same.seq ?hsm ?hsq; (case hsm => assumption); (case hsq => walk_at "sq")) | (refine' SqL.of ?hhq; (case hhq => walk_at "hp")) | (refine SqT.of ?_; walk_at "hp"))
local macro_rules | `(tactic| walk_at "hp") => `(tactic| first | assumption | (refine' (show Same _ _ by assumption) _ _ ?hhp; (case hhp => walk_at "hp")))
local macro_rules | `(tactic| walk_at "nin") => `(tactic| first | exact nin_of (by assumption) | exact nin_of (Ne.symm (by assumption)))
local macro_rules | `(tactic| walk_at "off") => `(tactic| first | exact Off.refl | exact Off.of (by assumption) | exact Off.sub (by assumption) (by intro b hb; rw [List.mem_singleton] at hb; subst hb; simp) | (refine Off.trans ?_ (Off.of (by assumption)); walk_at "off") | (refine Off.trans ?_ (Off.sub (by assumption) (by intro b hb; rw [List.mem_singleton] at hb; subst hb; simp)); walk_at "off") | (refine Off.trans ?_ (by assumption); walk_at "off"))
local macro_rules | `(tactic| walk_at "hp") => `(tactic| first | assumption | (refine' Off.at ?hO1 ?hO3 ?hO2; (case hO1 => assumption); (case hO2 => walk_at "nin"); (case hO3 => walk_at "hp")) | (refine' Off.lst ?hO1 ?hO2 ?hO3; (case hO1 => assumption); (case hO2 => assumption); (case hO3 => walk_at "hp")) | (refine' (show Same _ _ by assumption) _ _ ?hhp; (case hhp => walk_at "hp")))
local macro_rules | `(tactic| walk_at "nn") => `(tactic| (refine' ne_of_none ?nna ?nnb; (case nnb => assumption); (case nna => walk_at "hp")))
local macro_rules | `(tactic| walk_at "side") => `(tactic| first | assumption | decide | omega | exact ⟨by decide, by decide, by decide⟩ | exact ⟨by decide, by decide +kernel⟩ | exact Or.inr ⟨by decide, by decide⟩ | exact ⟨by omega, by omega⟩ | exact Or.inl ⟨by omega, by omega⟩ | exact Or.inr ⟨by omega, by omega⟩ | exact cdivW (by omega) (by omega) | (simp only [List.length_cons, List.length_nil, List.length_append, Nat.zero_add, Nat.reduceAdd, Nat.reduceMul]; decide) | (simp only [List.length_append, List.length_cons, List.length_nil, List.length_map]; omega) | (simp; done))
local macro_rules | `(tactic| walk_at "isi") => `(tactic| first
  | with_reducible refine x_isiNon_int ?_
  | with_reducible refine x_isiNon_bool ?_
  | with_reducible refine x_isiNon_str ?_
  | with_reducible refine x_isiNon_list ?_
  | with_reducible refine x_isiNon_tuple ?_
  | with_reducible refine x_isiNon_dict ?_
  | with_reducible refine x_isiBl_int ?_
  | with_reducible refine x_isiBl_bool ?_
  | with_reducible refine x_isiBl_str ?_
  | with_reducible refine x_isiBl_list ?_
  | with_reducible refine x_isiBl_tuple ?_
  | with_reducible refine x_isiBl_dict ?_
  | with_reducible refine x_isiInt_int ?_
  | with_reducible refine x_isiInt_bool ?_
  | with_reducible refine x_isiInt_str ?_
  | with_reducible refine x_isiInt_list ?_
  | with_reducible refine x_isiInt_tuple ?_
  | with_reducible refine x_isiInt_dict ?_
  | with_reducible refine x_isiStr_int ?_
  | with_reducible refine x_isiStr_bool ?_
  | with_reducible refine x_isiStr_str ?_
  | with_reducible refine x_isiStr_list ?_
  | with_reducible refine x_isiStr_tuple ?_
  | with_reducible refine x_isiStr_dict ?_
  | with_reducible refine x_isiLst_int (by assumption) ?_
  | with_reducible refine x_isiLst_bool (by assumption) ?_
  | with_reducible refine x_isiLst_str (by assumption) ?_
  | with_reducible refine x_isiLst_list (by assumption) ?_
  | with_reducible refine x_isiLst_tuple (by assumption) ?_
  | with_reducible refine x_isiLst_dict (by assumption) ?_
  | with_reducible refine x_isiTup_int (by assumption) ?_
  | with_reducible refine x_isiTup_bool (by assumption) ?_
  | with_reducible refine x_isiTup_str (by assumption) ?_
  | with_reducible refine x_isiTup_list (by assumption) ?_
  | with_reducible refine x_isiTup_tuple (by assumption) ?_
  | with_reducible refine x_isiTup_dict (by assumption) ?_
  | with_reducible refine x_isiDk_int (by assumption) ?_
  | with_reducible refine x_isiDk_bool (by assumption) ?_
  | with_reducible refine x_isiDk_str (by assumption) ?_
  | with_reducible refine x_isiDk_list (by assumption) ?_
  | with_reducible refine x_isiDk_tuple (by assumption) ?_
  | with_reducible refine x_isiDk_dict (by assumption) ?_)
local macro_rules | `(tactic| walk_at "s") => `(tactic| first
  | walk_at "u"
  | with_reducible refine x_seqA ?_
  | with_reducible refine x_seqD ?_
  | with_reducible refine x_seqF ?_
  | with_reducible refine x_seqFA ?_
  | with_reducible refine x_seqAug ?_
  | with_reducible refine x_asg ?_
  | ((with_reducible refine' x_var ?hv ?_); case hv => exact rfl)
  | with_reducible refine x_c ?_
  | with_reducible refine x_op ?_
  | with_reducible refine x_cb ?_
  | with_reducible refine x_cons ?_
  | with_reducible refine x_nil ?_
  | ((with_reducible refine x_gname ?_); (try dsimp only [List.set]))
  | with_reducible refine x_if ?_
  | with_reducible refine x_ret ?_
  | with_reducible refine x_test ?_
  | ((with_reducible refine x_isbl ?_); try dsimp only)
  | ((with_reducible refine x_truBl ?_); try dsimp only)
  | with_reducible refine x_callS ?_
  | with_reducible refine x_iteT ?_
  | with_reducible refine x_iteF ?_
  | with_reducible refine x_iteN ?_
  | with_reducible refine x_I0 ?_
  | with_reducible refine x_addI ?_
  | with_reducible refine x_lt ?_
  | ((with_reducible refine x_pow ?_ ?hs); (try (case hs => walk_at "side")); (try simp only [Int.reduceToNat]))
  | ((with_reducible refine x_I ?_ ?hs); (try (case hs => walk_at "side")))
  | ((with_reducible refine x_mulI ?_ ?hs); (case hs => walk_at "side"))
  | ((with_reducible refine x_mulU ?_ ?hs); (try (case hs => walk_at "side")))
  | with_reducible refine x_eqI ?_
  | with_reducible refine x_neI ?_
  | with_reducible refine x_eqB ?_
  | with_reducible refine x_neB ?_
  | with_reducible refine x_eqS ?_
  | with_reducible refine x_andT ?_
  | with_reducible refine x_orT ?_
  | with_reducible refine x_notT ?_
  | with_reducible refine x_and ?_
  | with_reducible refine x_or ?_
  | with_reducible refine x_not ?_
  | with_reducible refine x_chain ?_
  | with_reducible refine x_tB ?_
  | with_reducible refine x_tup ?_
  | with_reducible refine x_lst ?_
  | with_reducible refine x_un ?_
  | ((with_reducible refine x_nwL ?_ ?hs); (try (case hs => walk_at "side")); intro p H1 hp hs hn)
  | ((with_reducible refine x_nwT ?_ ?hs); (try (case hs => walk_at "side")); intro p H1 hp hs hn)
  | ((with_reducible refine' x_addL ?h1 ?h2 ?_ ?hs); (case h1 => walk_at "hp"); (case h2 => walk_at "hp"); (try (case hs => walk_at "side")); intro p H1 hp hs hn)
  | ((with_reducible refine' x_rep1 ?h1 ?_ ?h0); (case h1 => walk_at "hp"); (try (case h0 => walk_at "side")); intro p H1 hp hs hn)
  | ((with_reducible refine' x_rep ?h1 ?_ ?h2 ?h0 ?hs); (case h1 => walk_at "hp"); (try (case h2 => walk_at "side")); (try (case h0 => walk_at "side")); (try (case hs => walk_at "side")); intro p H1 hp hs hn)
  | ((with_reducible refine' x_addS ?_ ?hs); (try (case hs => walk_at "side")))
  | with_reducible refine x_U ?_
  | with_reducible refine x_drop ?_
  | with_reducible refine x_retN ?_
  | ((with_reducible refine x_next ?_); try dsimp only)
  | with_reducible refine x_ifExp ?_
  | ((with_reducible refine' x_lenM ?hq ?_); case hq => walk_at "sq")
  | ((with_reducible refine' x_lenL ?hq ?_); case hq => walk_at "sq")
  | ((with_reducible refine' x_lenD ?hq ?_); case hq => walk_at "hp")
  | ((with_reducible refine' x_lenT ?hq ?_); case hq => walk_at "sq")
  | ((with_reducible refine' x_ixH ?hq ?_); (case hq => walk_at "sq"))
  | ((with_reducible refine' x_ixS ?hq ?ha ?_); (case hq => walk_at "sq"); (case ha => first | assumption | exact rfl))
  | ((with_reducible refine' x_ixI ?hq ?_ ?h0 ?h1); (case hq => walk_at "sq"); (try (case h0 => walk_at "side")); (try (case h1 => walk_at "side")))
  | ((with_reducible refine' x_ixB ?hq ?_ ?h0 ?h1); (case hq => walk_at "sq"); (try (case h0 => walk_at "side")); (try (case h1 => walk_at "side")))
  | ((with_reducible refine' x_ixL ?hq ?_ ?h0 ?h1); (case hq => walk_at "sq"); (try (case h0 => walk_at "side")); (try (case h1 => walk_at "side")))
  | ((with_reducible refine' x_ixT ?hq ?ha ?_); (case hq => walk_at "sq"); case ha => exact rfl)
  | walk_at "isi"
  | with_reducible refine x_bm ?_
  | ((with_reducible refine' x_bmL ?hq ?_); (case hq => walk_at "sq"))
  | with_reducible refine x_bm0 ?_
  | ((with_reducible refine' x_bm0L ?hq ?_); (case hq => walk_at "sq"))
  | ((with_reducible refine' x_append ?ho ?_ ?hl); (case ho => walk_at "hp"); (try (case hl => walk_at "side")))
  | ((with_reducible refine' x_clear ?ho ?_); (case ho => walk_at "hp"))
  | with_reducible refine x_slice ?_
  | with_reducible refine x_noPart ?_
  | with_reducible refine x_part ?_
  | with_reducible refine x_ptK ?_
  | ((with_reducible refine' x_slL ?hq ?_); (case hq => walk_at "sq"); intro p H1 hp hs hn)
  | with_reducible refine x_forL ?_
  | with_reducible refine x_forT ?_
  | with_reducible refine x_forS ?_
  | with_reducible refine x_forR1 ?_
  | with_reducible refine x_forR2 ?_
  | with_reducible refine x_forEn ?_
  | with_reducible refine x_forZ ?_
  | with_reducible refine x_lcL ?_
  | with_reducible refine x_lcR1 ?_
  | with_reducible refine x_lcR2 ?_
  | with_reducible refine x_yes ?_
  | ((with_reducible refine x_mk0 ?_); intro p dp H1 hp hdp hne hs hn hd)
  | with_reducible refine x_mkS ?_
  | ((with_reducible refine x_mkK ?_); intro p dp H1 hp hdp hne hs hn hd)
  | with_reducible refine x_methD ?_
  | with_reducible refine x_fldAug ?_
  | with_reducible refine x_dget ?_
  | ((with_reducible refine' x_dgS ?ho ?hv ?_); (case ho => walk_at "hp"); (case hv => exact rfl); (try dsimp only))
  | with_reducible refine x_dput ?_
  | with_reducible refine x_seqDP ?_
  | with_reducible refine x_prN ?_
  | with_reducible refine x_prC ?_
  | ((with_reducible refine x_disp ?_); intro p H1 hp hs hn)
  | ((with_reducible refine x_dnew ?_); intro p H1 hp hs hn)
  | with_reducible refine x_din ?_
  | with_reducible refine x_dnin ?_
  | ((with_reducible refine' x_dninI ?ho ?_); (case ho => walk_at "hp"))
  | with_reducible refine x_dget1 ?_
  | with_reducible refine x_dsetd ?_
  | with_reducible refine x_dpop1 ?_
  | with_reducible refine x_dpop2 ?_
  | ((with_reducible refine' x_dinI ?ho ?_); (case ho => walk_at "hp"))
  | ((with_reducible refine' x_dg1K ?ho ?_); (case ho => walk_at "hp"))
  | ((with_reducible refine' x_dg1I ?ho ?_); (case ho => walk_at "hp"))
  | ((with_reducible refine' x_dsK ?ho ?_); (case ho => walk_at "hp"))
  | ((with_reducible refine' x_dpp1K ?ho ?_); (case ho => walk_at "hp"))
  | ((with_reducible refine' x_dpp2K ?ho ?_); (case ho => walk_at "hp"))
  | with_reducible refine x_augS ?_
  | with_reducible refine x_seqAS ?_
  | with_reducible refine x_rSub ?_
  | ((with_reducible refine' x_getI ?hq ?_ ?h0 ?h1); (case hq => walk_at "sq"); (try (case h0 => walk_at "side")); (try (case h1 => walk_at "side")))
  | ((with_reducible refine' x_getL ?hq ?_ ?h0 ?h1); (case hq => walk_at "sq"); (try (case h0 => walk_at "side")); (try (case h1 => walk_at "side")))
  | with_reducible refine x_gsub ?_
  | ((with_reducible refine' x_setL ?ho ?_ ?h0 ?h1); (case ho => walk_at "hp"); (try (case h0 => walk_at "side")); (try (case h1 => walk_at "side")); intro H1 hO hI; (try dsimp only))
  | ((with_reducible refine' x_sfN ?ho ?hf ?_ ?hc ?hn ?hl); (case ho => walk_at "hp"); (case hf => exact rfl); (case hc => walk_at "cls"); (case hn => walk_at "na"); (case hl => exact Nat.le_of_ble_eq_true rfl); intro H1 hO hI; (dsimp only [List.cons_append, List.nil_append] at hI); (try dsimp only))
  | ((with_reducible refine' x_fldK ?ho ?hf ?_ ?hc ?hn); (case ho => walk_at "hp"); (case hf => exact rfl); (case hc => walk_at "cls"); (case hn => walk_at "na"))
  | ((with_reducible refine' x_aug ?hv ?_); case hv => exact rfl)
  | ((with_reducible refine x_ipI ?_); (try dsimp only [List.set]))
  | with_reducible refine x_rAdd ?_
  | with_reducible refine x_isB ?_
  | with_reducible refine x_isNotB ?_
  | with_reducible refine x_isN ?_
  | with_reducible refine x_isNotN ?_
  | ((with_reducible refine' x_inI ?hq ?_); (case hq => walk_at "sq"))
  | ((with_reducible refine' x_notInI ?hq ?_); (case hq => walk_at "sq"))
  | ((with_reducible refine x_intB ?_); try dsimp only)
  | with_reducible refine x_intI ?_
  | with_reducible refine x_raise ?_
  | with_reducible refine x_seqR ?_
  | with_reducible refine x_mkE ?_
  | with_reducible refine x_try1 ?_
  | with_reducible refine x_seqT1 ?_
  | with_reducible refine x_tryA ?_
  | with_reducible refine x_seqTA ?_
  | with_reducible refine x_tryK ?_
  | with_reducible refine x_seqTK ?_
  | with_reducible refine x_tryM ?_
  | with_reducible refine x_seqTM ?_
  | with_reducible refine x_mix ?_
  | with_reducible refine x_seqMix ?_
  | with_reducible refine x_xf ?_
  | with_reducible refine x_mkO ?_
  | with_reducible refine x_vei ?_
  | with_reducible refine x_fld ?_
  | with_reducible refine x_sfld ?_
  | ((with_reducible refine' x_gtup2 ?hq ?_); (case hq => walk_at "sq"); (try dsimp only [List.set]))
  | ((with_reducible refine' x_glst4 ?hq ?_); (case hq => walk_at "sq"); (try dsimp only [List.set]))
  | with_reducible refine x_max2 ?_
  | with_reducible refine x_min2 ?_
  | ((with_reducible refine' x_list ?hq ?_); (case hq => walk_at "sq"); intro p H1 hp hs hn)
  | with_reducible refine x_listRev ?_
  | ((with_reducible refine' x_lrK ?hq ?_); (case hq => walk_at "sq"); intro p H1 hp hs hn)
  | ((with_reducible refine' x_tupL ?hq ?_); (case hq => walk_at "sq"); intro p H1 hp hs hn)
  | ((with_reducible refine' x_listD ?hq ?_); (case hq => walk_at "hp"); intro p H1 hp hs hn)
  | ((with_reducible refine x_shl ?_ ?hs); (try (case hs => walk_at "side")))
  | ((with_reducible refine x_str ?_ ?hs); (try (case hs => walk_at "side"))))
local macro_rules | `(tactic| walk_at "go") => `(tactic| repeat walk_at "s")
local macro_rules | `(tactic| walk_at "begin") => `(tactic| simp only [L2H.cxH, cxOf, L2.start, List.map, List.length_cons, List.length_nil, List.replicate, Nat.reduceAdd, Nat.reduceSub, List.cons_append, List.nil_append])
local macro_rules | `(tactic| walk_at "if") => `(tactic| ((with_reducible refine x_seq ?_); repeat walk_at "s"))
local macro_rules | `(tactic| walk_at "exv") => `(tactic| first | assumption | ((refine' ExV.mono ?exa ?exb); (case exa => assumption); (case exb => assumption)) | ((refine' ExV.off1 ?exo ?exx ?exn); (case exo => assumption); (case exx => assumption); (case exn => assumption)))
local macro_rules | `(tactic| walk_at "u") => `(tactic| first | ((with_reducible refine' x_isVC ?exv ?exe ?exk ?_); (case exv => walk_at "exv"); (case exe => assumption); (case exk => assumption)) | ((with_reducible refine' x_isVT ?exv ?exe ?exk ?_); (case exv => walk_at "exv"); (case exe => assumption); (case exk => assumption)))
--#LAWSPEC 40
structure Txt (K : PySem.W.Frag) (mg : Str → Option Value) where
  a_is_whole : Addr
  fd_is_whole : FuncData
  F_is_whole : Fun K "is_whole" "is_whole" s_is_whole a_is_whole fd_is_whole
  bd_is_whole : Binds K fd_is_whole ["thing"] []
  k_is_whole : PySem.W.keepIn K (.ref a_is_whole) = true
  g_is_whole : mg "is_whole" = some (.ref a_is_whole)
  a_is_within : Addr
  fd_is_within : FuncData
  F_is_within : Fun K "is_within" "is_within" s_is_within a_is_within fd_is_within
  bd_is_within : Binds K fd_is_within ["thing", "low", "high"] []
  k_is_within : PySem.W.keepIn K (.ref a_is_within) = true
  g_is_within : mg "is_within" = some (.ref a_is_within)
  a_need_sheets : Addr
  fd_need_sheets : FuncData
  F_need_sheets : Fun K "need_sheets" "need_sheets" s_need_sheets a_need_sheets fd_need_sheets
  bd_need_sheets : Binds K fd_need_sheets ["row", "many"] []
  k_need_sheets : PySem.W.keepIn K (.ref a_need_sheets) = true
  g_need_sheets : mg "need_sheets" = some (.ref a_need_sheets)
  a_need_race : Addr
  fd_need_race : FuncData
  F_need_race : Fun K "need_race" "need_race" s_need_race a_need_race fd_need_race
  bd_need_race : Binds K fd_need_race ["blocks", "pages", "row", "more"] []
  k_need_race : PySem.W.keepIn K (.ref a_need_race) = true
  g_need_race : mg "need_race" = some (.ref a_need_race)
  a_Bench_init : Addr
  fd_Bench_init : FuncData
  F_Bench_init : Fun K "__init__" "Bench.__init__" s_Bench_init a_Bench_init fd_Bench_init
  bd_Bench_init : Binds K fd_Bench_init ["self", "blocks", "pages"] []
  k_Bench_init : PySem.W.keepIn K (.ref a_Bench_init) = true
  a_Bench_copied : Addr
  fd_Bench_copied : FuncData
  F_Bench_copied : Fun K "copied" "Bench.copied" s_Bench_copied a_Bench_copied fd_Bench_copied
  bd_Bench_copied : Binds K fd_Bench_copied ["self"] []
  k_Bench_copied : PySem.W.keepIn K (.ref a_Bench_copied) = true
  a_Bench_empty_ones : Addr
  fd_Bench_empty_ones : FuncData
  F_Bench_empty_ones : Fun K "empty_ones" "Bench.empty_ones" s_Bench_empty_ones a_Bench_empty_ones fd_Bench_empty_ones
  bd_Bench_empty_ones : Binds K fd_Bench_empty_ones ["self"] []
  k_Bench_empty_ones : PySem.W.keepIn K (.ref a_Bench_empty_ones) = true
  a_Bench_begun : Addr
  fd_Bench_begun : FuncData
  F_Bench_begun : Fun K "begun" "Bench.begun" s_Bench_begun a_Bench_begun fd_Bench_begun
  bd_Bench_begun : Binds K fd_Bench_begun ["self"] []
  k_Bench_begun : PySem.W.keepIn K (.ref a_Bench_begun) = true
  a_Bench_is_ready : Addr
  fd_Bench_is_ready : FuncData
  F_Bench_is_ready : Fun K "is_ready" "Bench.is_ready" s_Bench_is_ready a_Bench_is_ready fd_Bench_is_ready
  bd_Bench_is_ready : Binds K fd_Bench_is_ready ["self"] []
  k_Bench_is_ready : PySem.W.keepIn K (.ref a_Bench_is_ready) = true
  a_Bench_lay_down : Addr
  fd_Bench_lay_down : FuncData
  F_Bench_lay_down : Fun K "lay_down" "Bench.lay_down" s_Bench_lay_down a_Bench_lay_down fd_Bench_lay_down
  bd_Bench_lay_down : Binds K fd_Bench_lay_down ["self", "sheet"] []
  k_Bench_lay_down : PySem.W.keepIn K (.ref a_Bench_lay_down) = true
  a_Bench_choices : Addr
  fd_Bench_choices : FuncData
  F_Bench_choices : Fun K "choices" "Bench.choices" s_Bench_choices a_Bench_choices fd_Bench_choices
  bd_Bench_choices : Binds K fd_Bench_choices ["self"] []
  k_Bench_choices : PySem.W.keepIn K (.ref a_Bench_choices) = true
  a_Bench_clear_out : Addr
  fd_Bench_clear_out : FuncData
  F_Bench_clear_out : Fun K "clear_out" "Bench.clear_out" s_Bench_clear_out a_Bench_clear_out fd_Bench_clear_out
  bd_Bench_clear_out : Binds K fd_Bench_clear_out ["self", "block"] []
  k_Bench_clear_out : PySem.W.keepIn K (.ref a_Bench_clear_out) = true
  a_least_from : Addr
  fd_least_from : FuncData
  F_least_from : Fun K "least_from" "least_from" s_least_from a_least_from fd_least_from
  bd_least_from : Binds K fd_least_from ["bench", "row"] []
  k_least_from : PySem.W.keepIn K (.ref a_least_from) = true
  g_least_from : mg "least_from" = some (.ref a_least_from)
  a_least_moves : Addr
  fd_least_moves : FuncData
  F_least_moves : Fun K "least_moves" "least_moves" s_least_moves a_least_moves fd_least_moves
  bd_least_moves : Binds K fd_least_moves ["blocks", "pages", "row"] []
  k_least_moves : PySem.W.keepIn K (.ref a_least_moves) = true
  g_least_moves : mg "least_moves" = some (.ref a_least_moves)
  a__law_drawn : Addr
  fd__law_drawn : FuncData
  F__law_drawn : Fun K "_law_drawn" "_law_drawn" s__law_drawn a__law_drawn fd__law_drawn
  bd__law_drawn : Binds K fd__law_drawn ["_law_script", "_law_k"] []
  k__law_drawn : PySem.W.keepIn K (.ref a__law_drawn) = true
  g__law_drawn : mg "_law_drawn" = some (.ref a__law_drawn)
  a__law_race : Addr
  fd__law_race : FuncData
  F__law_race : Fun K "_law_race" "_law_race" s__law_race a__law_race fd__law_race
  bd__law_race : Binds K fd__law_race ["_law_script"] []
  k__law_race : PySem.W.keepIn K (.ref a__law_race) = true
  g__law_race : mg "_law_race" = some (.ref a__law_race)
  a__law_new : Addr
  fd__law_new : FuncData
  F__law_new : Fun K "_law_new" "_law_new" s__law_new a__law_new fd__law_new
  bd__law_new : Binds K fd__law_new ["_law_blocks", "_law_pages"] []
  k__law_new : PySem.W.keepIn K (.ref a__law_new) = true
  g__law_new : mg "_law_new" = some (.ref a__law_new)
  a__law_put : Addr
  fd__law_put : FuncData
  F__law_put : Fun K "_law_put" "_law_put" s__law_put a__law_put fd__law_put
  bd__law_put : Binds K fd__law_put ["_law_state", "_law_sheet"] []
  k__law_put : PySem.W.keepIn K (.ref a__law_put) = true
  g__law_put : mg "_law_put" = some (.ref a__law_put)
  a__law_live : Addr
  fd__law_live : FuncData
  F__law_live : Fun K "_law_live" "_law_live" s__law_live a__law_live fd__law_live
  bd__law_live : Binds K fd__law_live ["_law_state", "_law_block"] []
  k__law_live : PySem.W.keepIn K (.ref a__law_live) = true
  g__law_live : mg "_law_live" = some (.ref a__law_live)
  a__law_short : Addr
  fd__law_short : FuncData
  F__law_short : Fun K "_law_short" "_law_short" s__law_short a__law_short fd__law_short
  bd__law_short : Binds K fd__law_short ["_law_state"] []
  k__law_short : PySem.W.keepIn K (.ref a__law_short) = true
  g__law_short : mg "_law_short" = some (.ref a__law_short)
  a__law_ways : Addr
  fd__law_ways : FuncData
  F__law_ways : Fun K "_law_ways" "_law_ways" s__law_ways a__law_ways fd__law_ways
  bd__law_ways : Binds K fd__law_ways ["_law_state"] []
  k__law_ways : PySem.W.keepIn K (.ref a__law_ways) = true
  g__law_ways : mg "_law_ways" = some (.ref a__law_ways)
  a__law_cleared_out : Addr
  fd__law_cleared_out : FuncData
  F__law_cleared_out : Fun K "_law_cleared_out" "_law_cleared_out" s__law_cleared_out a__law_cleared_out fd__law_cleared_out
  bd__law_cleared_out : Binds K fd__law_cleared_out ["_law_state", "_law_block"] []
  k__law_cleared_out : PySem.W.keepIn K (.ref a__law_cleared_out) = true
  g__law_cleared_out : mg "_law_cleared_out" = some (.ref a__law_cleared_out)
  a__law_way : Addr
  fd__law_way : FuncData
  F__law_way : Fun K "_law_way" "_law_way" s__law_way a__law_way fd__law_way
  bd__law_way : Binds K fd__law_way ["_law_blocks", "_law_pages", "_law_row", "_law_picks"] []
  k__law_way : PySem.W.keepIn K (.ref a__law_way) = true
  g__law_way : mg "_law_way" = some (.ref a__law_way)
  a_law : Addr
  fd_law : FuncData
  F_law : Fun K "law" "law" s_law a_law fd_law
  bd_law : Binds K fd_law ["_law_script"] []
  k_law : PySem.W.keepIn K (.ref a_law) = true
  C_Bench : Addr
  g_Bench : mg "Bench" = some (.ref C_Bench)
  cl_Bench : Cls K C_Bench
  na_Bench_pages : NoAttr K C_Bench "pages"
  na_Bench_stacks : NoAttr K C_Bench "stacks"
  na_Bench_times : NoAttr K C_Bench "times"
  mk_Bench : Mk K C_Bench a_Bench_init
  m_Bench_copied : Meth K C_Bench "copied" a_Bench_copied
  m_Bench_empty_ones : Meth K C_Bench "empty_ones" a_Bench_empty_ones
  m_Bench_begun : Meth K C_Bench "begun" a_Bench_begun
  m_Bench_is_ready : Meth K C_Bench "is_ready" a_Bench_is_ready
  m_Bench_lay_down : Meth K C_Bench "lay_down" a_Bench_lay_down
  m_Bench_choices : Meth K C_Bench "choices" a_Bench_choices
  m_Bench_clear_out : Meth K C_Bench "clear_out" a_Bench_clear_out
  C_WornError : Addr
  g_WornError : mg "WornError" = some (.ref C_WornError)
  xc_WornError : XC K C_WornError
  C_NoRace : Addr
  g_NoRace : mg "NoRace" = some (.ref C_NoRace)
  xc_NoRace : XC K C_NoRace
  b_len : mg "len" = none
  b_isinstance : mg "isinstance" = none
  b_sorted : mg "sorted" = none
  b_int : mg "int" = none
  b_list : mg "list" = none
  b_bool : mg "bool" = none
  b_set : mg "set" = none
  b_range : mg "range" = none
  b_enumerate : mg "enumerate" = none
  b_ValueError : mg "ValueError" = none
local macro_rules | `(tactic| walk_at "cls") => `(tactic| first | assumption | exact (show Txt _ _ by assumption).cl_Bench)
local macro_rules | `(tactic| walk_at "na") => `(tactic| first | assumption | exact (show Txt _ _ by assumption).na_Bench_pages | exact (show Txt _ _ by assumption).na_Bench_stacks | exact (show Txt _ _ by assumption).na_Bench_times)
section
variable {P : Program} {w : World} {K : PySem.W.Frag} {mg : Str → Option Value} {base : Heap}
abbrev FO (P : Program) (w : World) (K : PySem.W.Frag) (mg : Str → Option Value) (base : Heap) := FnOk P w K mg base (L2.CX P w)
theorem small64 {n : Nat} (h : n ≤ 1000) : n < sizeLine := Nat.lt_of_le_of_lt h (by decide)
/-- a value that is no whole number, of a kind that is met here -/
def NotI (K : PySem.W.Frag) (H : Hp) (v : V) : Prop := v = .non ∨ (∃ b, v = .bl b) ∨ (∃ s, v = .str s) ∨ ∃ p, v = .ref p ∧ (TyX K H v (.type "list") ∨ TyX K H v (.type "tuple"))
/-! ### whole numbers -/
def spWhole (K : PySem.W.Frag) : Sp := fun vs H Q _ => ∃ v, vs = [v] ∧ ((∃ n, v = .int n ∧ Q (.bl true) H) ∨ (NotI K H v ∧ Q (.bl false) H))
theorem x_whole {H : Hp} {Q : VK} {E : XK} {n : Int} (q : Q (.bl true) H) : spWhole K [.int n] H Q E := ⟨_, rfl, .inl ⟨n, rfl, q⟩⟩
theorem x_wholeN {H : Hp} {Q : VK} {E : XK} {v : V} (h : NotI K H v) (q : Q (.bl false) H) : spWhole K [v] H Q E := ⟨_, rfl, .inr ⟨h, q⟩⟩
local macro_rules | `(tactic| walk_at "u") => `(tactic| first | (with_reducible refine x_whole ?_) | (with_reducible refine x_wholeN (by assumption) ?_))
theorem ok_is_whole (T : Txt K mg) : FO P w K mg base 1 T.a_is_whole T.fd_is_whole ["thing"] (spWhole K) := by
  have sc := sc_is_whole
  refine T.F_is_whole.okX sc (fun vs H Q E h => ?_) (fun cdv A outer s H vs Q E hr h => ?_)
  · obtain ⟨v, rfl, _⟩ := h
    rfl
  · obtain ⟨v, rfl, h⟩ := h
    refine ⟨_, (pss_one (ps_ret (pe_andT (pe_callB (cr_uisinstance) (by rfl) T.b_isinstance bt_isinstance (pa_cons (pv 0) (pa_cons (pe_bltn (v := .ty "int") (by rfl) T.b_int bt_int rfl) pa_nil))) (pe_one (pe_notT (pe_callB (cr_uisinstance) (by rfl) T.b_isinstance bt_isinstance (pa_cons (pv 0) (pa_cons (pe_bltn (v := .ty "bool") (by rfl) T.b_bool bt_bool rfl) pa_nil)))))))), ?_⟩
    walk_at "begin"
    walk_at "go"
    rcases h with ⟨n, rfl, q⟩ | ⟨h, q⟩
    · walk_at "go"
      exact q
    · rcases h with rfl | ⟨b, rfl⟩ | ⟨z, rfl⟩ | ⟨p, rfl, h⟩
      · walk_at "go"
        exact q
      · walk_at "go"
        exact q
      · walk_at "go"
        exact q
      · rcases h with h | h
        · refine x_isiR h (b := false) (by decide +kernel) ?_
          walk_at "go"
          exact q
        · refine x_isiR h (b := false) (by decide +kernel) ?_
          walk_at "go"
          exact q
def spWithin (K : PySem.W.Frag) : Sp := fun vs H Q _ => ∃ v lo hi, vs = [v, .int lo, .int hi] ∧ ((∃ n, v = .int n ∧ Q (.bl (decide (lo ≤ n ∧ n ≤ hi))) H) ∨ (NotI K H v ∧ Q (.bl false) H))
theorem x_within {H : Hp} {Q : VK} {E : XK} {n lo hi : Int} (q : Q (.bl (decide (lo ≤ n ∧ n ≤ hi))) H) : spWithin K [.int n, .int lo, .int hi] H Q E := ⟨_, _, _, rfl, .inl ⟨n, rfl, q⟩⟩
theorem x_withinN {H : Hp} {Q : VK} {E : XK} {v : V} {lo hi : Int} (h : NotI K H v) (q : Q (.bl false) H) : spWithin K [v, .int lo, .int hi] H Q E := ⟨_, _, _, rfl, .inr ⟨h, q⟩⟩
local macro_rules | `(tactic| walk_at "u") => `(tactic| first | (with_reducible refine x_within ?_) | (with_reducible refine x_withinN (by assumption) ?_))
theorem ok_is_within (T : Txt K mg) : FO P w K mg base 2 T.a_is_within T.fd_is_within ["thing", "low", "high"] (spWithin K) := by
  have sc := sc_is_within
  refine T.F_is_within.okX sc (fun vs H Q E h => ?_) (fun cdv A outer s H vs Q E hr h => ?_)
  · obtain ⟨v, lo, hi, rfl, _⟩ := h
    rfl
  · obtain ⟨v, lo, hi, rfl, h⟩ := h
    refine ⟨_, (pss_one (ps_ret (pe_andT (pe_callS (ok_is_whole T) (hr.mono (by decide)) (by rfl) T.g_is_whole T.k_is_whole T.bd_is_whole (passAt (takes_of rfl rfl rfl rfl)) (pa_cons (pv 0) pa_nil)) (pe_one (pe_chain op_le op_le (pv 1) (pv 0) (pv 2)))))), ?_⟩
    walk_at "begin"
    walk_at "go"
    rcases h with ⟨n, rfl, q⟩ | ⟨h, q⟩
    · walk_at "go"
      refine x_iteD (fun h => ?_) (fun h => ?_)
      · walk_at "go"
        have e : decide (n ≤ hi) = decide (lo ≤ n ∧ n ≤ hi) := by simp [h]
        rw [e]
        exact q
      · walk_at "go"
        have e : false = decide (lo ≤ n ∧ n ≤ hi) := by simp [h]
        rw [← e] at q
        exact q
    · walk_at "go"
      exact q
/-! ### pairs of numbers as data -/
def prD (e : Int × Int) : PyData := .tuple [.int e.1, .int e.2]
theorem prD_sh {k : Nat} (e : Int × Int) : Sh (k + 1) (prD e) := Sh.tup fun d h => by
  simp only [List.mem_cons, List.not_mem_nil, or_false] at h
  rcases h with rfl | rfl <;> exact Sh.int
theorem _root_.Kit.PairL.dp {K : PySem.W.Frag} {H : Hp} {q : Addr} {ws : List V} {is : List (Int × Int)} (h : PairL H ws is) (hq : H q = some (.lst ws)) : Dp K H (.ref q) (.list (is.map prD)) := by
  refine .lst (SqL.of hq) (dpAll_of (by rw [List.length_map]; exact h.1) fun i v d h1 h2 => ?_)
  rw [List.getElem?_map] at h2
  cases e : is[i]? with
  | none => rw [e] at h2; simp at h2
  | some t =>
    rw [e] at h2
    simp at h2
    subst h2
    obtain ⟨a, rfl, ha⟩ := h.2 i v t h1 e
    exact .tup (SqT.of ha) (.cons (.int _) (.cons (.int _) .nil))
theorem prsSh {k : Nat} {is : List (Int × Int)} : Sh (k + 2) (.list (is.map prD)) := Sh.list (k := k + 1) fun d h => by
  obtain ⟨e, _, rfl⟩ := List.mem_map.mp h
  exact prD_sh e
/-! ### dicts from numbers to numbers -/
def kvI (ps : List (Int × Int)) : List (L2.Key × V) := ps.map fun e => (.inl e.1, .int e.2)
def getI (ps : List (Int × Int)) (n : Int) : Option Int := (ps.find? fun e => decide (e.1 = n)).map (·.2)
def putI (ps : List (Int × Int)) (n x : Int) : List (Int × Int) := if (ps.any fun e => decide (e.1 = n)) = true then ps.map (fun e => if e.1 = n then (e.1, x) else e) else ps ++ [(n, x)]
theorem keyI {m n : Int} : decide ((Sum.inl m : L2.Key) = .inl n) = decide (m = n) := by
  rw [decide_eq_decide]
  exact ⟨fun z => by injection z, fun z => by rw [z]⟩
theorem valV_I {n : Int} : ∀ {ps : List (Int × Int)}, valV (kvI ps) (.inl n) = (getI ps n).map V.int
  | [] => rfl
  | e :: ps => by
    by_cases h : e.1 = n
    · have e1 : valV (kvI (e :: ps)) (.inl n) = some (.int e.2) := valV_pos (p := ((Sum.inl e.1 : L2.Key), V.int e.2)) (by rw [h])
      rw [e1]
      unfold getI
      rw [List.find?_cons, decide_eq_true h]
      rfl
    · have e1 : valV (kvI (e :: ps)) (.inl n) = valV (kvI ps) (.inl n) := valV_neg (p := ((Sum.inl e.1 : L2.Key), V.int e.2)) (fun z => h (Sum.inl.inj z))
      rw [e1, valV_I]
      unfold getI
      rw [List.find?_cons, decide_eq_false h]
theorem putK_I {ps : List (Int × Int)} {n x : Int} : putK (kvI ps) (.inl n) (.int x) = kvI (putI ps n x) := by
  unfold putK putI
  have e : ((kvI ps).any fun kv => decide (kv.1 = .inl n)) = ps.any fun e => decide (e.1 = n) := by
    unfold kvI
    rw [List.any_map]
    exact congrArg (ps.any ·) (funext fun e => keyI)
  rw [e]
  split
  · unfold kvI
    rw [List.map_map, List.map_map]
    refine List.map_congr_left fun e _ => ?_
    show (if (Sum.inl e.1 : L2.Key) = .inl n then _ else _) = _
    by_cases h : e.1 = n
    · rw [if_pos (by rw [h])]
      simp [h]
    · rw [if_neg (fun z => h (by injection z))]
      simp [h]
  · unfold kvI
    rw [List.map_append]
    rfl
theorem kvI_len {ps : List (Int × Int)} : (kvI ps).length = ps.length := List.length_map _
/-! ### the book -/
structure Bk where
  b : Int
  p : Int
  wh : List (Int × Int)
  nm : List V
  live : List Int
  fil : List Int
  born : List Int
  stamp : Int
structure BF where
  dx : Addr
  wh : Addr
  nm : Addr
  lv : Addr
  fl : Addr
  bn : Addr
def bookF (F : BF) (k : Bk) : List (Str × V) := [("blocks", .int k.b), ("pages", .int k.p), ("where", .ref F.wh), ("names", .ref F.nm), ("live", .ref F.lv), ("filled", .ref F.fl), ("born", .ref F.bn), ("stamp", .int k.stamp)]
def BF.all (F : BF) (r : Addr) : List Addr := [r, F.wh, F.nm, F.lv, F.fl, F.bn]
structure BookAt (C : Addr) (H : Hp) (r : Addr) (F : BF) (k : Bk) : Prop where
  obj : H r = some (.ins C F.dx (bookF F k))
  wh : H F.wh = some (.dK (kvI k.wh))
  nm : H F.nm = some (.lst k.nm)
  lv : H F.lv = some (.lst (k.live.map V.int))
  fl : H F.fl = some (.lst (k.fil.map V.int))
  bn : H F.bn = some (.lst (k.born.map V.int))
  nd : (BF.all F r).Nodup
theorem BookAt.mono {C : Addr} {H H' : Hp} {r : Addr} {F : BF} {k : Bk} (s : Same H H') (h : BookAt C H r F k) : BookAt C H' r F k := ⟨s _ _ h.obj, s _ _ h.wh, s _ _ h.nm, s _ _ h.lv, s _ _ h.fl, s _ _ h.bn, h.nd⟩
theorem BookAt.off {C : Addr} {H H' : Hp} {r : Addr} {F : BF} {k : Bk} {S : List Addr} (h : BookAt C H r F k) (s : Off S H H') (n : ∀ a, a ∈ F.all r → a ∉ S) : BookAt C H' r F k := by
  unfold BF.all at n
  exact ⟨s.at h.obj (n _ (by simp)), s.at h.wh (n _ (by simp)), s.at h.nm (n _ (by simp)), s.at h.lv (n _ (by simp)), s.at h.fl (n _ (by simp)), s.at h.bn (n _ (by simp)), h.nd⟩
theorem BookAt.there {C : Addr} {H : Hp} {r : Addr} {F : BF} {k : Bk} (h : BookAt C H r F k) : ∀ a ∈ F.all r, ∃ o, H a = some o ∧ ∀ xs, o ≠ .tup xs := fun a ha => by
  unfold BF.all at ha
  simp only [List.mem_cons, List.not_mem_nil, or_false] at ha
  rcases ha with rfl | rfl | rfl | rfl | rfl | rfl
  · exact ⟨_, h.obj, fun _ z => by cases z⟩
  · exact ⟨_, h.wh, fun _ z => by cases z⟩
  · exact ⟨_, h.nm, fun _ z => by cases z⟩
  · exact ⟨_, h.lv, fun _ z => by cases z⟩
  · exact ⟨_, h.fl, fun _ z => by cases z⟩
  · exact ⟨_, h.bn, fun _ z => by cases z⟩
theorem BookAt.fresh {C : Addr} {H : Hp} {r : Addr} {F : BF} {k : Bk} (h : BookAt C H r F k) {q : Addr} (hq : H q = none) : q ∉ F.all r := fun m => by
  obtain ⟨o, e, _⟩ := h.there q m
  rw [hq] at e
  cases e
--#CUT
/-! ### comprehensions whose turns change something; a comprehension over a zip -/
section
open PySem L2 Kit
variable {K : PySem.W.Frag} {σ : L2.St} {H : Hp} {g : TG} {tt : TT} {te tl : TE} {vs : List Nat} {a b : Addr} {Q : VK} {xs ys : List V} {ta : TA}
/-- a turn that may change what stands at S -/
def LcTurnO (S : List Addr) (g : TG) (tt : TT) (te : TE) (vs : List Nat) (σ : L2.St) (A : Nat → List V → Hp → Prop) (i : Nat) (x : V) (acc : List V) (H' : Hp) : Prop :=
  ∀ (NY : VK) (NN : Hp → Prop), (∀ y H4, Off S H' H4 → A (i + 1) (acc ++ [y]) H4 → NY y H4) → (∀ H3, Off S H' H3 → A (i + 1) acc H3 → NN H3) →
    g x (wipe σ vs) H' fun σ2 H2 => wipe σ2 vs = wipe σ vs ∧ tt σ2 H2 fun b H3 => if b = true then te σ2 H3 NY else NN H3
theorem x_lcLO (S : List Addr) (hS : ∀ b ∈ S, H b ≠ none) (hq : H a = some (.lst xs)) (ha : a ∉ S) (A : Addr → Nat → List V → Hp → Prop)
    (hA : ∀ Dr i acc acc0 acc1 H, H Dr = some (.lst acc0) → A Dr i acc H → A Dr i acc (upd H Dr (.lst acc1))) (hn : xs.length < sizeLine) (h0 : ∀ Dr, H Dr = none → A Dr 0 [] (upd H Dr (.lst [])))
    (hs : ∀ Dr i x acc H', xs[i]? = some x → H Dr = none → H' Dr = some (.lst acc) → Off S H H' → A Dr i acc H' → LcTurnO S g tt te vs σ (A Dr) i x acc H')
    (hd : ∀ p acc H', H p = none → Off S H H' → H' p = some (.lst acc) → A p xs.length acc H' → Q (.ref p) H') : lcL K g tt te vs σ Q (.ref a) H := by
  refine ⟨a, rfl, ⟨_, SqL.of hq⟩, fun Dr hD => ?_⟩
  have hDS : Dr ∉ S := fun m => hS Dr m hD
  refine lc_list (K := K) (a := a) (xs := xs) (fun i H' => ∃ acc, H' Dr = some (.lst acc) ∧ acc.length ≤ i ∧ Off S H H' ∧ A Dr i acc H') ⟨[], upd_same, Nat.le_refl _, Off.of (same_upd hD), h0 Dr hD⟩ (fun i H' _ ⟨_, _, _, s, _⟩ => SqL.of (s _ _ ha hq)) ?_ ?_
  · rintro i x H' hx ⟨acc, h1, h2, h3, h4⟩
    have hi := (List.getElem?_eq_some_iff.mp hx).1
    refine hs Dr i x acc H' hx hD h1 h3 h4 _ _ (fun y H4 s4 a4 => ?_) (fun H3 s3 a3 => ⟨acc, s3 _ _ hDS h1, Nat.le_succ_of_le h2, h3.trans s3, a3⟩)
    have e4 := s4 _ _ hDS h1
    refine ⟨acc, e4, by omega, acc ++ [y], upd_same, by rw [List.length_append]; exact Nat.add_le_add h2 (Nat.le_refl _), fun b o nb e => ?_, hA _ _ _ _ _ _ e4 a4⟩
    rw [upd_ne (ne_of_none e hD)]
    exact s4 _ _ nb (h3 _ _ nb e)
  · rintro H' ⟨acc, h1, h2, h3, h4⟩
    exact hd Dr acc H' hD h3 h1 h4
theorem x_lcRO {j : Int} (S : List Addr) (hS : ∀ b ∈ S, H b ≠ none) (A : Addr → Nat → List V → Hp → Prop)
    (hA : ∀ Dr i acc acc0 acc1 H, H Dr = some (.lst acc0) → A Dr i acc H → A Dr i acc (upd H Dr (.lst acc1))) (hn : 0 ≤ j ∧ j < 1000000) (h0 : ∀ Dr, H Dr = none → A Dr 0 [] (upd H Dr (.lst [])))
    (hs : ∀ Dr i acc H', i < j.toNat → H Dr = none → H' Dr = some (.lst acc) → Off S H H' → A Dr i acc H' → LcTurnO S g tt te vs σ (A Dr) i (.int (i : Nat)) acc H')
    (hd : ∀ p acc H', H p = none → Off S H H' → H' p = some (.lst acc) → A p j.toNat acc H' → Q (.ref p) H') : lcR1 g tt te vs σ Q [.int j] H := by
  have hsz : j.toNat < sizeLine := Nat.lt_of_lt_of_le (by omega : j.toNat < 1000000) (by decide)
  refine ⟨j, rfl, by omega, by omega, fun Dr hD => ?_⟩
  have hDS : Dr ∉ S := fun m => hS Dr m hD
  refine lc_range (fun i H' => ∃ acc, H' Dr = some (.lst acc) ∧ acc.length ≤ i ∧ Off S H H' ∧ A Dr i acc H') ⟨[], upd_same, Nat.le_refl _, Off.of (same_upd hD), h0 Dr hD⟩ ?_ ?_
  · rintro i H' hi ⟨acc, h1, h2, h3, h4⟩
    rw [Int.zero_add]
    refine hs Dr i acc H' hi hD h1 h3 h4 _ _ (fun y H4 s4 a4 => ?_) (fun H3 s3 a3 => ⟨acc, s3 _ _ hDS h1, Nat.le_succ_of_le h2, h3.trans s3, a3⟩)
    have e4 := s4 _ _ hDS h1
    refine ⟨acc, e4, by omega, acc ++ [y], upd_same, by rw [List.length_append]; exact Nat.add_le_add h2 (Nat.le_refl _), fun b o nb e => ?_, hA _ _ _ _ _ _ e4 a4⟩
    rw [upd_ne (ne_of_none e hD)]
    exact s4 _ _ nb (h3 _ _ nb e)
  · rintro H' ⟨acc, h1, h2, h3, h4⟩
    exact hd Dr acc H' hD h3 h1 h4
def lcZ (K : PySem.W.Frag) (g : TG) (tt : TT) (te : TE) (vs : List Nat) (σ : L2.St) (Q : VK) : List V → Hp → Prop := fun ws H1 => ∃ a b xs ys, ws = [.ref a, .ref b] ∧ SqL K H1 a xs ∧ SqL K H1 b ys ∧ lcK (Itz K a b) g tt te vs σ Q H1
theorem x_lcZ (h : ta σ H (lcZ K g tt te vs σ Q)) : tLc (iZip K ta) g tt te vs σ H Q := h
end
local macro_rules | `(tactic| walk_at "u") => `(tactic| with_reducible refine x_lcZ ?_)
/-! ### len(set(l)): how many unlike numbers a list has -/
section
open PySem PySem.Spec PyProof.Rows L2 Kit
def unl (ns : List Int) : List Int := PyProof.Rows.firstMet (fun i => ns.getD i 0) ns.length
theorem met_sub (f : Nat → Int) (s : List Int) : ∀ n, (∀ i, i < n → f i ∈ s) → (PyProof.Rows.firstMet f n).Nodup ∧ ∀ x ∈ PyProof.Rows.firstMet f n, x ∈ s
  | 0, _ => ⟨List.nodup_nil, fun x h => by cases h⟩
  | n + 1, h => by
    obtain ⟨h1, h2⟩ := met_sub f s n fun i hi => h i (by omega)
    rw [PyProof.Rows.firstMet_succ]
    show (if ((PyProof.Rows.firstMet f n).any (· == f n)) = true then PyProof.Rows.firstMet f n else PyProof.Rows.firstMet f n ++ [f n]).Nodup ∧ ∀ x ∈ (if ((PyProof.Rows.firstMet f n).any (· == f n)) = true then PyProof.Rows.firstMet f n else PyProof.Rows.firstMet f n ++ [f n]), x ∈ s
    by_cases hc : ((PyProof.Rows.firstMet f n).any (· == f n)) = true
    · rw [if_pos hc]
      exact ⟨h1, h2⟩
    · rw [if_neg hc]
      refine ⟨List.nodup_append.mpr ⟨h1, by simp, fun x hx y hy => ?_⟩, fun x hx => ?_⟩
      · rw [List.mem_singleton.mp hy]
        intro z
        exact hc (List.any_eq_true.mpr ⟨x, hx, by rw [z]; exact beq_self_eq_true _⟩)
      · rcases List.mem_append.mp hx with hx | hx
        · exact h2 x hx
        · rw [List.mem_singleton.mp hx]
          exact h n (by omega)
theorem nodup_sub_len {α : Type} [DecidableEq α] : ∀ {l s : List α}, l.Nodup → (∀ x ∈ l, x ∈ s) → l.length ≤ s.length
  | [], s, _, _ => Nat.zero_le _
  | x :: l, s, h, hs => by
    have h := List.nodup_cons.mp h
    have hx := hs x List.mem_cons_self
    have := nodup_sub_len (s := s.erase x) h.2 fun y hy => (List.mem_erase_of_ne (fun z => h.1 (by rw [← z]; exact hy))).mpr (hs y (List.mem_cons_of_mem _ hy))
    rw [List.length_erase_of_mem hx] at this
    have : 0 < s.length := List.length_pos_of_mem hx
    show l.length + 1 ≤ s.length
    omega
theorem unl_len {ns s : List Int} (h : ∀ x ∈ ns, x ∈ s) : (unl ns).length ≤ s.length := by
  obtain ⟨h1, h2⟩ := met_sub (fun i => ns.getD i 0) s ns.length fun i hi => by
    rw [List.getD_eq_getElem?_getD, List.getElem?_eq_getElem hi]
    exact h _ (List.getElem_mem hi)
  exact nodup_sub_len h1 h2
variable {X : Cx}
def tLenSet (K : PySem.W.Frag) (ta : TE) : TE := fun σ H Q => ta σ H fun x H1 => ∃ (l : Addr) (ns : List Int), x = V.ref l ∧ SqL K H1 l (ns.map V.int) ∧ ns.length < 64 ∧ Q (.int ((unl ns).length : Nat)) H1
theorem pe_lenSet {a : Expr} {ta : TE} {p p2 q pos : Pos} (hc : X.calm = true) (hg : Gl X "len") (hm : X.mg "len" = none) (hg2 : Gl X "set") (hm2 : X.mg "set" = none) (ha : PE X a ta)
    (na : starEach [a] X.env = (false, eval a X.env) :: starEach [] X.env := by rfl) : PE X (.Call (.Name "len" p) [.Call (.Name "set" p2) [a] [] q] [] pos) (tLenSet X.K ta) := by
  refine ⟨fun pins s σ H Q I h => ?_⟩
  refine Call_ (ld_blt I hg hm PySem.boot_len (PyProof.Rows.callWith_builtin1 (PyProof.Rows.args_cons ?_ rfl) rfl rfl))
  refine Call_ (ld_blt I hg2 hm2 PyProof.Rows.boot_set (PyProof.Rows.callWith_type1 (PyProof.Rows.args_cons (thn (ha.run pins s σ H _ I h) fun v s1 ⟨x, H1, I1, r1, l, ns, ex, hq, h1, q1⟩ => PyProof.Rows.args_nil ?_) na) na rfl))
  subst ex
  cases r1
  obtain ⟨its, r, pl, hz⟩ := I1.list hq
  have hl : its.toArray.size = ns.length := by rw [List.size_toArray, ← r.length, List.length_map]
  have hu := unl_len (ns := ns) (s := ns) fun x h => h
  refine call_set_list (I1.ok.hd hc) pl.isList (ns := ns) (by simpa using r.ints) (by unfold scanBound; omega) fun h' tk hS hk => PyProof.Rows.args_nil ?_
  rw [hl] at hS
  obtain ⟨o, es, ep, t, ho, hex, hd, _, _, _, hf, hn⟩ := hS
  have hn : es.size = (unl ns).length := hn
  exact call_len_set ho hex hd hf (by rw [hn]; omega) ⟨.int ((unl ns).length : Nat), H1, (I1.kept (t' := tk) fun b o e => hk b o (Heap.lt_size e) e).tok _, ⟨_, by rw [hn]⟩, q1⟩
theorem x_lenSet {K : PySem.W.Frag} {σ : L2.St} {H : Hp} {Q : VK} {ta : TE} (h : ta σ H fun x H1 => ∃ (l : Addr) (ns : List Int), x = V.ref l ∧ SqL K H1 l (ns.map V.int) ∧ ns.length < 64 ∧ Q (.int ((unl ns).length : Nat)) H1) : tLenSet K ta σ H Q := h
end
local macro_rules | `(tactic| walk_at "u") => `(tactic| with_reducible refine x_lenSet ?_)
/-! ### a bench, as plain data -/
structure Bn where
  p : Int
  st : List (List (Option Int))
  tm : List Int
def oIV : Option Int → V
  | none => .non
  | some n => .int n
def isPart (p : Int) (s : List (Option Int)) : Bool := decide ((0 : Int) < (s.length : Int) ∧ (s.length : Int) < p)
def Bn.beg (b : Bn) : Option Nat := b.st.findIdx? (isPart b.p)
def Bn.empP (b : Bn) (n : Nat) : List (Int × Int) := ((List.range n).filter fun k => (b.st.getD k []).isEmpty).map fun k => (b.tm.getD k 0, (k : Int))
def Bn.emp (b : Bn) : List Int := (sortP (b.empP b.st.length)).map Prod.snd
def Bn.rdy (b : Bn) : Bool := decide (1 < b.emp.length) || (decide (b.emp.length = 1) && b.beg.isSome)
def killS (x : Int) (s : List (Option Int)) : List (Option Int) := s.set (s.idxOf (some x)) none
def Bn.kill (b : Bn) (x : Int) : Bn := { b with st := b.st.map (killS x) }
def Bn.spot (b : Bn) : Option Nat := match b.beg with
  | some k => some k
  | none => b.emp.head?.map Int.toNat
def Bn.app (b : Bn) (k : Nat) (x : Int) : Bn := { b with st := b.st.set k (b.st.getD k [] ++ [some x]) }
def Bn.lay (b : Bn) (x : Int) : Option Bn := ((b.kill x).spot).map fun k => (b.kill x).app k x
def Bn.isCh (b : Bn) (k : Nat) : Bool := decide (((b.st.getD k []).length : Int) = b.p) && (b.st.getD k []).contains none
def Bn.chs (b : Bn) : List Nat := (List.range b.st.length).filter b.isCh
def Bn.lays (b : Bn) : List Int → Option Bn
  | [] => some b
  | x :: xs => (b.lay x).bind fun b' => b'.lays xs
def Bn.mv (b : Bn) (k : Nat) : List Int := (b.st.getD k []).filterMap id
def Bn.wip (b : Bn) (k : Nat) : Bn := { b with st := b.st.set k [], tm := b.tm.set k (b.tm.getD k 0 + 1) }
def Bn.clr (b : Bn) (k : Nat) : Option (Bn × Int) := (b.lays (b.mv k)).map fun b' => (b'.wip k, ((b.mv k).length : Int))
def Bn.run (b : Bn) : List Int → Option (Bn × List Int)
  | [] => some (b, [])
  | x :: xs => if b.rdy = true then (b.lay x).bind fun b' => b'.run xs else some (b, x :: xs)
/-- which of two: the new one where it moves fewer -/
def betQ (o : Option (Int × List Int)) (k : Nat) (m : Int) (r : Int × List Int) : Int × List Int := match o with
  | none => (m + r.1, (k : Int) :: r.2)
  | some c => if m + r.1 < c.1 then (m + r.1, (k : Int) :: r.2) else c
def bestQ (g : Bn → List Int → Option (Int × List Int)) (b : Bn) (rest : List Int) : List Nat → Option (Int × List Int) → Option (Int × List Int)
  | [], o => o
  | k :: ks, o => (b.clr k).bind fun bm => (g bm.1 rest).bind fun r => bestQ g b rest ks (some (betQ o k bm.2 r))
def lstQ : Nat → Bn → List Int → Option (Int × List Int)
  | 0, _, _ => none
  | f + 1, b, row => (b.run row).bind fun br => if br.2 = [] then some (0, []) else bestQ (lstQ f) br.1 br.2 br.1.chs none
def newB (n : Nat) (p : Int) : Bn := ⟨p, List.replicate n [], List.replicate n 0⟩
/-- what stays so: sizes -/
structure BOk (b : Bn) : Prop where
  n4 : b.st.length ≤ 4
  tl : b.tm.length = b.st.length
  p1 : 1 ≤ b.p
  p3 : b.p ≤ 3
  sz : ∀ s ∈ b.st, (s.length : Int) ≤ b.p
theorem killS_len (x : Int) (s : List (Option Int)) : (killS x s).length = s.length := List.length_set ..
theorem Bn.kill_get (b : Bn) (x : Int) (k : Nat) : ((b.kill x).st.getD k []).length = (b.st.getD k []).length := by
  show ((b.st.map (killS x)).getD k []).length = _
  rw [List.getD_eq_getElem?_getD, List.getD_eq_getElem?_getD, List.getElem?_map]
  cases b.st[k]? with
  | none => rfl
  | some s => exact killS_len x s
theorem BOk.kill {b : Bn} (h : BOk b) (x : Int) : BOk (b.kill x) := by
  refine ⟨?_, ?_, h.p1, h.p3, fun s hs => ?_⟩
  · show (b.st.map _).length ≤ 4
    rw [List.length_map]
    exact h.n4
  · show b.tm.length = (b.st.map _).length
    rw [List.length_map]
    exact h.tl
  · obtain ⟨t, ht, rfl⟩ := List.mem_map.mp hs
    rw [killS_len]
    exact h.sz t ht
theorem Bn.beg_some {b : Bn} {k : Nat} (h : b.beg = some k) : ∃ hk : k < b.st.length, isPart b.p (b.st[k]) = true ∧ ∀ j, (hj : j < k) → isPart b.p (b.st[j]) = false := by
  obtain ⟨h1, h2, h3⟩ := List.findIdx?_eq_some_iff_getElem.mp h
  exact ⟨h1, h2, fun j hj => by simpa using h3 j hj⟩
theorem Bn.beg_none {b : Bn} (h : b.beg = none) : ∀ s ∈ b.st, isPart b.p s = false := fun s hs => by
  have := List.findIdx?_eq_none_iff.mp h s hs
  simpa using this
theorem emp_mem {b : Bn} {e : Int} (h : e ∈ b.emp) : ∃ k : Nat, e = (k : Int) ∧ k < b.st.length ∧ b.st.getD k [] = [] := by
  obtain ⟨q, hq, rfl⟩ := List.mem_map.mp h
  obtain ⟨k, hk, rfl⟩ := List.mem_map.mp ((sortP_perm _).mem_iff.mp hq)
  obtain ⟨h1, h2⟩ := List.mem_filter.mp hk
  exact ⟨k, rfl, List.mem_range.mp h1, by simpa using h2⟩
theorem Bn.spot_lt {b : Bn} {k : Nat} (hok : BOk b) (h : b.spot = some k) : k < b.st.length ∧ ((b.st.getD k []).length : Int) < b.p := by
  unfold Bn.spot at h
  cases hb : b.beg with
  | some j =>
    rw [hb] at h
    cases h
    obtain ⟨h1, h2, _⟩ := Bn.beg_some hb
    have := of_decide_eq_true h2
    refine ⟨h1, ?_⟩
    rw [List.getD_eq_getElem?_getD, List.getElem?_eq_getElem h1]
    exact this.2
  | none =>
    rw [hb] at h
    have h : b.emp.head?.map Int.toNat = some k := h
    cases he : b.emp with
    | nil => rw [he] at h; cases h
    | cons e es =>
      rw [he] at h
      have h := Option.some.inj h
      obtain ⟨j, e1, e2, e3⟩ := emp_mem (show e ∈ b.emp by rw [he]; exact List.mem_cons_self)
      have : j = k := by omega
      subst this
      rw [e3]
      have := hok.p1
      exact ⟨e2, by show (0 : Int) < _; omega⟩
theorem BOk.app {b : Bn} {k : Nat} {x : Int} (h : BOk b) (hk : ((b.st.getD k []).length : Int) < b.p) : BOk (b.app k x) := by
  refine ⟨?_, ?_, h.p1, h.p3, fun s hs => ?_⟩
  · show (b.st.set _ _).length ≤ 4
    rw [List.length_set]
    exact h.n4
  · show b.tm.length = (b.st.set _ _).length
    rw [List.length_set]
    exact h.tl
  · rcases List.mem_or_eq_of_mem_set hs with hs | rfl
    · exact h.sz s hs
    · rw [List.length_append, List.length_singleton]
      show ((_ + 1 : Nat) : Int) ≤ b.p
      omega
theorem BOk.lay {b b' : Bn} {x : Int} (h : BOk b) (e : b.lay x = some b') : BOk b' ∧ b'.st.length = b.st.length ∧ b'.p = b.p := by
  unfold Bn.lay at e
  cases hs : (b.kill x).spot with
  | none => rw [hs] at e; cases e
  | some k =>
    rw [hs] at e
    cases e
    refine ⟨(h.kill x).app (Bn.spot_lt (h.kill x) hs).2, ?_, rfl⟩
    show ((b.st.map (killS x)).set _ _).length = _
    rw [List.length_set, List.length_map]
theorem BOk.lays {b' : Bn} : ∀ {xs : List Int} {b : Bn}, BOk b → b.lays xs = some b' → BOk b' ∧ b'.st.length = b.st.length ∧ b'.p = b.p
  | [], b, h, e => by cases e; exact ⟨h, rfl, rfl⟩
  | x :: xs, b, h, e => by
    cases hl : b.lay x with
    | none => rw [Bn.lays, hl] at e; cases e
    | some b1 =>
      rw [Bn.lays, hl] at e
      obtain ⟨h1, h2, h3⟩ := h.lay hl
      obtain ⟨h4, h5, h6⟩ := BOk.lays h1 (show b1.lays xs = some b' from e)
      exact ⟨h4, h5.trans h2, h6.trans h3⟩
theorem BOk.wip {b : Bn} {k : Nat} (h : BOk b) : BOk (b.wip k) := by
  refine ⟨?_, ?_, h.p1, h.p3, fun s hs => ?_⟩
  · show (b.st.set _ _).length ≤ 4
    rw [List.length_set]
    exact h.n4
  · show (b.tm.set _ _).length = (b.st.set _ _).length
    rw [List.length_set, List.length_set]
    exact h.tl
  · rcases List.mem_or_eq_of_mem_set hs with hs | rfl
    · exact h.sz s hs
    · have := h.p1
      show (0 : Int) ≤ b.p
      omega
theorem BOk.newB {n : Nat} {p : Int} (hn : n ≤ 4) (h1 : 1 ≤ p) (h3 : p ≤ 3) : BOk (newB n p) := by
  refine ⟨?_, ?_, h1, h3, fun s hs => ?_⟩
  · show (List.replicate n _).length ≤ 4
    rw [List.length_replicate]
    exact hn
  · show (List.replicate n _).length = (List.replicate n _).length
    rw [List.length_replicate, List.length_replicate]
  · rw [(List.mem_replicate.mp hs).2]
    show (0 : Int) ≤ p
    omega
/-! ### the bench in the heap -/
structure BG where
  ls : Addr
  lt : Addr
  sa : List Addr
def BG.all (G : BG) : List Addr := G.ls :: G.lt :: G.sa
structure BnAt (T : Txt K mg) (H : Hp) (r : Addr) (G : BG) (b : Bn) : Prop where
  ins : ∃ dx, H r = some (.ins T.C_Bench dx [("pages", .int b.p), ("stacks", .ref G.ls), ("times", .ref G.lt)])
  ls : H G.ls = some (.lst (G.sa.map V.ref))
  lt : H G.lt = some (.lst (b.tm.map V.int))
  len : G.sa.length = b.st.length
  st : ∀ (i : Nat) a s, G.sa[i]? = some a → b.st[i]? = some s → H a = some (.lst (s.map oIV))
  nd : G.all.Nodup
  ok : BOk b
theorem BnAt.rne {T : Txt K mg} {H : Hp} {r : Addr} {G : BG} {b : Bn} (h : BnAt T H r G b) : r ∉ G.all := fun m => by
  obtain ⟨dx, e⟩ := h.ins
  rcases List.mem_cons.mp m with z | m
  · rw [z, h.ls] at e; cases e
  rcases List.mem_cons.mp m with z | m
  · rw [z, h.lt] at e; cases e
  · obtain ⟨i, hi⟩ := List.mem_iff_getElem?.mp m
    have hl := (List.getElem?_eq_some_iff.mp hi).1
    have := h.st i r _ hi (List.getElem?_eq_getElem (h.len ▸ hl))
    rw [this] at e
    cases e
theorem BnAt.off {T : Txt K mg} {H H' : Hp} {r : Addr} {G : BG} {b : Bn} {S : List Addr} (h : BnAt T H r G b) (s : Off S H H') (hn : ∀ a ∈ S, a ≠ r ∧ a ∉ G.all) : BnAt T H' r G b := by
  have k : ∀ {a : Addr} {o : HO}, a ∈ r :: G.all → H a = some o → H' a = some o := fun {a o} m e => s a o (fun z => by
    rcases List.mem_cons.mp m with y | y
    · exact (hn a z).1 y
    · exact (hn a z).2 y) e
  obtain ⟨dx, e⟩ := h.ins
  refine ⟨⟨dx, k List.mem_cons_self e⟩, k (List.mem_cons_of_mem _ List.mem_cons_self) h.ls, k (List.mem_cons_of_mem _ (List.mem_cons_of_mem _ List.mem_cons_self)) h.lt, h.len, fun i a s h1 h2 => k (List.mem_cons_of_mem _ (List.mem_cons_of_mem _ (List.mem_cons_of_mem _ (List.mem_of_getElem? h1)))) (h.st i a s h1 h2), h.nd, h.ok⟩
theorem BnAt.mono {T : Txt K mg} {H H' : Hp} {r : Addr} {G : BG} {b : Bn} (h : BnAt T H r G b) (s : Same H H') : BnAt T H' r G b := h.off (S := []) (Off.of s) fun a ha => by cases ha
theorem BnAt.get {T : Txt K mg} {H : Hp} {r : Addr} {G : BG} {b : Bn} (h : BnAt T H r G b) {k : Nat} (hk : k < b.st.length) : ∃ a, G.sa[k]? = some a ∧ a ∈ G.sa ∧ H a = some (.lst ((b.st.getD k []).map oIV)) := by
  have hl : k < G.sa.length := h.len ▸ hk
  refine ⟨G.sa[k], List.getElem?_eq_getElem hl, List.getElem_mem hl, ?_⟩
  rw [List.getD_eq_getElem?_getD, List.getElem?_eq_getElem hk]
  exact h.st k _ _ (List.getElem?_eq_getElem hl) (List.getElem?_eq_getElem hk)
section
variable {H : Hp} {Q : VK} {a : Addr} {s : List (Option Int)}
theorem flat_o (s : List (Option Int)) : (s.map oIV).all flatV = true := by
  rw [List.all_eq_true]
  intro x h
  obtain ⟨n, _, rfl⟩ := List.mem_map.mp h
  cases n <;> rfl
theorem eqV_o (o : Option Int) (n : Int) : eqV (oIV o) (.int n) = (o == some n) := by
  cases o with
  | none => rfl
  | some m => rfl
theorem inV_o (n : Int) (s : List (Option Int)) : inV (.int n) (s.map oIV) = s.contains (some n) := by
  unfold inV
  induction s with
  | nil => rfl
  | cons o s ih =>
    rw [List.map_cons, List.any_cons, ih, eqV_o, List.contains_cons, Bool.beq_comm]
theorem inV_n (s : List (Option Int)) : inV .non (s.map oIV) = s.contains none := by
  unfold inV
  induction s with
  | nil => rfl
  | cons o s ih =>
    rw [List.map_cons, List.any_cons, ih, List.contains_cons]
    cases o <;> rfl
theorem x_inO {n : Int} (h : SqL K H a (s.map oIV)) (q : Q (.bl (s.contains (some n))) H) : uIn K (.int n) (.ref a) H Q := ⟨a, _, rfl, .inl h, rfl, flat_o s, by rw [inV_o] <;> exact q⟩
theorem x_inN (h : SqL K H a (s.map oIV)) (q : Q (.bl (s.contains none)) H) : uIn K .non (.ref a) H Q := ⟨a, _, rfl, .inl h, rfl, flat_o s, by rw [inV_n] <;> exact q⟩
theorem idxOf_first {x : Option Int} : ∀ (s : List (Option Int)) (m : Nat), s[m]? = some x → s.idxOf x ≤ m
  | [], m, h => by simp at h
  | y :: s, m, h => by
    rw [List.idxOf_cons]
    by_cases e : y = x
    · rw [beq_iff_eq.mpr e]
      exact Nat.zero_le _
    · rw [beq_eq_false_iff_ne.mpr e]
      cases m with
      | zero => simp at h; exact absurd h e
      | succ m => exact Nat.succ_le_succ (idxOf_first s m (by simpa using h))
theorem x_idxO {n : Int} (h : SqL K H a (s.map oIV)) (hc : s.contains (some n) = true) (q : Q (.int ((s.idxOf (some n) : Nat) : Int)) H) : rIndex K (.ref a) [.int n] H Q := by
  have hm : some n ∈ s := List.contains_iff_mem.mp hc
  have hl := List.idxOf_lt_length_of_mem hm
  have hg : s[s.idxOf (some n)] = some n := List.getElem_idxOf hl
  refine ⟨a, s.map oIV, .int n, s.idxOf (some n), .int n, rfl, rfl, h, rfl, flat_o s, ?_, ?_, fun m z' hm' hz' => ?_, q⟩
  · rw [List.getElem?_map, List.getElem?_eq_getElem hl, hg]
    rfl
  · exact beq_self_eq_true n
  · rw [List.getElem?_map] at hz'
    cases hs : s[m]? with
    | none => rw [hs] at hz'; cases hz'
    | some o =>
      rw [hs] at hz'
      cases hz'
      rw [eqV_o]
      have : o ≠ some n := fun e => by
        rw [e] at hs
        have := idxOf_first s m hs
        omega
      simpa using this
end
/-! ### a bench is made -/
/-- new lists in a list: sa, their addresses, what they bear -/
def NewLs (H0 : Hp) (Dr : Addr) (xss : List (List V)) (acc : List V) (H' : Hp) : Prop := ∃ sa : List Addr, acc = sa.map V.ref ∧ sa.length = xss.length ∧ sa.Nodup ∧ (∀ a ∈ sa, a ≠ Dr ∧ H0 a = none) ∧ ∀ (i : Nat) a xs, sa[i]? = some a → xss[i]? = some xs → H' a = some (.lst xs)
theorem NewLs.upd {H0 H' : Hp} {Dr : Addr} {xss : List (List V)} {acc acc1 : List V} (h : NewLs H0 Dr xss acc H') : NewLs H0 Dr xss acc (upd H' Dr (.lst acc1)) := by
  obtain ⟨sa, a, b, c, d, e⟩ := h
  exact ⟨sa, a, b, c, d, fun i x xs h1 h2 => by rw [upd_ne (d x (List.mem_of_getElem? h1)).1]; exact e i x xs h1 h2⟩
theorem NewLs.mono {H0 H' H2 : Hp} {Dr : Addr} {xss : List (List V)} {acc : List V} (s : Same H' H2) (h : NewLs H0 Dr xss acc H') : NewLs H0 Dr xss acc H2 := by
  obtain ⟨sa, a, b, c, d, e⟩ := h
  exact ⟨sa, a, b, c, d, fun i x xs h1 h2 => s _ _ (e i x xs h1 h2)⟩
theorem NewLs.nil {H0 H' : Hp} {Dr : Addr} : NewLs H0 Dr [] [] H' := ⟨[], rfl, rfl, List.nodup_nil, fun a h => (by cases h), fun i a xs h1 _ => by simp at h1⟩
theorem NewLs.snoc {H0 H' : Hp} {Dr : Addr} {xss : List (List V)} {acc : List V} {a : Addr} {xs : List V} {old : Hp} (h : NewLs H0 Dr xss acc old) (s : Same old H') (n0 : H0 a = none) (n1 : old a = none) (hD : old Dr ≠ none) (ha : H' a = some (.lst xs)) : NewLs H0 Dr (xss ++ [xs]) (acc ++ [.ref a]) H' := by
  obtain ⟨sa, e1, e2, e3, e4, e5⟩ := h
  have hna : a ∉ sa := fun m => by
    obtain ⟨i, hi⟩ := List.mem_iff_getElem?.mp m
    have hl := (List.getElem?_eq_some_iff.mp hi).1
    have := e5 i a _ hi (List.getElem?_eq_getElem (e2 ▸ hl))
    rw [n1] at this
    cases this
  refine ⟨sa ++ [a], by rw [e1, List.map_append]; rfl, by rw [List.length_append, List.length_append, e2]; rfl, ?_, fun b hb => ?_, fun i b ys h1 h2 => ?_⟩
  · exact List.nodup_append.mpr ⟨e3, by simp, fun x hx y hy => by rw [List.mem_singleton.mp hy]; exact fun z => hna (z ▸ hx)⟩
  · rcases List.mem_append.mp hb with hb | hb
    · exact e4 b hb
    · rw [List.mem_singleton.mp hb]
      exact ⟨fun z => hD (by rw [← z]; exact n1), n0⟩
  · by_cases hi : i < sa.length
    · rw [List.getElem?_append_left hi] at h1
      rw [List.getElem?_append_left (e2 ▸ hi)] at h2
      exact s _ _ (e5 i b ys h1 h2)
    · have e : i = sa.length := by
        have := (List.getElem?_eq_some_iff.mp h1).1
        simp at this
        omega
      subst e
      rw [List.getElem?_append_right (Nat.le_refl _)] at h1
      rw [e2, List.getElem?_append_right (Nat.le_refl _)] at h2
      simp at h1 h2
      subst h1 h2
      exact ha
def spBnInit (T : Txt K mg) : Sp := fun vs H Q _ => ∃ (r dx : Addr) (n : Nat) (p : Int), vs = [.ref r, .int (n : Int), .int p] ∧ H r = some (.ins T.C_Bench dx []) ∧ n ≤ 4 ∧ (1 ≤ p ∧ p ≤ 3) ∧
  ∀ G H', (∀ a ∈ G.all, H a = none) → Off [r] H H' → BnAt T H' r G (newB n p) → Q .non H'
theorem ok_Bench_init (T : Txt K mg) : FO P w K mg base 1 T.a_Bench_init T.fd_Bench_init ["self", "blocks", "pages"] (spBnInit T) := by
  have sc := sc_Bench_init
  refine T.F_Bench_init.okX sc (fun vs H Q E h => ?_) (fun cdv A outer s H vs Q E hr h => ?_)
  · obtain ⟨_, _, _, _, rfl, _⟩ := h
    rfl
  obtain ⟨r, dx, n, p, rfl, hR, hn, hp, q⟩ := h
  refine ⟨_, (pss_cons (ps_fld (pv 0) (pv 2) rfl)
      (pss_cons (ps_fld (pv 0) (pe_lc (own := [("block", 3)]) (by rfl) sc.nd (pi_range1 (by rfl) T.b_range (pa_cons (pv 1) pa_nil)) (blkOk_by (own := [("block", 3)]) (N := N_Bench_init) (sc := defScope s_Bench_init) (by decide +kernel)) (fun _ _ _ _ _ => (pg_name (i := 3) sc.nd rfl (by first | exact Or.inl rfl | exact Or.inr rfl))) (fun _ _ _ _ _ => pts_nil) (fun _ _ _ _ _ => (pe_lst pa_nil))) rfl)
      (pss_one (ps_fld (pv 0) (pe_op op_uMul (pe_lst (pa_cons pe_int pa_nil)) (pv 1)) rfl)))), ?_⟩
  walk_at "begin"
  walk_at "go"
  rename_i H1 hO1 hI1
  refine x_lcRO [] (fun b hb => by cases hb) (fun Dr i acc H' => NewLs H1 Dr (List.replicate i []) acc H') (fun Dr i acc acc0 acc1 H' _ h => h.upd) ⟨by omega, by omega⟩ (fun Dr _ => NewLs.nil) ?_ ?_
  · intro Dr i acc H' hi hD hD' hO hA NY NN hY hN
    dsimp only [wipe]
    walk_at "go"
    refine ⟨rfl, ?_⟩
    walk_at "go"
    rename_i q1 H2 hq1 hs2 hn2
    refine hY _ _ (Off.of hs2) ?_
    show NewLs H1 Dr (List.replicate (i + 1) []) _ H2
    rw [List.replicate_succ']
    exact hA.snoc hs2 (same_none (fun b o e => hO b o (by simp) e) hq1) hq1 (by rw [hD']; intro z; cases z) hn2
  intro ls acc H2 hls hO2 hn2 ⟨sa, e1, e2, e3, e4, e5⟩
  subst e1
  have hI2 : H2 r = _ := hO2 _ _ (by simp) hI1
  walk_at "go"
  rename_i H3 hO3 hI3 p0 H4 hp0 hs4 hn4 pt H5 hpt hs5 hn5 H6 hO6 hI6
  rw [Int.toNat_natCast] at e2 e5 hn5
  have s12 : Same H1 H2 := fun b o e => hO2 b o (by simp) e
  have nn : ∀ {a : Addr}, H1 a = none → H a = none := fun {a} h => by
    cases e : H a with
    | none => rfl
    | some o =>
      by_cases z : a = r
      · rw [z, hI1] at h
        cases h
      · rw [hO1.at e (nin_of z)] at h
        cases h
  have up26 : ∀ {a : Addr} {o : HO}, a ≠ r → H2 a = some o → H4 a = some o ∧ H6 a = some o := fun {a o} n e => by
    have h4 := hs4 _ _ (hO3.at e (nin_of n))
    exact ⟨h4, hO6.at (hs5 _ _ h4) (nin_of n)⟩
  have hlr : ls ≠ r := fun z => by rw [z, hI2] at hn2; cases hn2
  have hpr : pt ≠ r := fun z => by
    rw [z] at hpt
    rw [hs4 _ _ hI3] at hpt
    cases hpt
  have hsar : ∀ a ∈ sa, a ≠ r := fun a ha z => by
    have := (e4 a ha).2
    rw [z, hI1] at this
    cases this
  have hat : ∀ (i : Nat) a, sa[i]? = some a → H2 a = some (.lst []) := fun i a h => e5 i a [] h (by
    have hl := (List.getElem?_eq_some_iff.mp h).1
    rw [e2, List.length_replicate] at hl
    rw [List.getElem?_replicate, if_pos hl])
  have hpt1 : H1 pt = none := by
    have h3 := same_none hs4 hpt
    have h2 : H2 pt = none := by
      cases e : H2 pt with
      | none => rfl
      | some o =>
        rw [hO3.at e (nin_of hpr)] at h3
        cases h3
    exact same_none s12 h2
  refine q ⟨ls, pt, sa⟩ H6 (fun a ha => ?_) (hO1.trans ((Off.of s12).trans (hO3.trans ((Off.of hs4).trans ((Off.of hs5).trans hO6))))) ⟨⟨dx, hI6⟩, (up26 hlr hn2).2, hO6.at (by show H5 pt = some (.lst ((List.replicate n (0 : Int)).map V.int)); rw [List.map_replicate]; exact hn5) (nin_of hpr), ?_, fun i a s h1 h2 => ?_, ?_, BOk.newB hn hp.1 hp.2⟩
  · rcases List.mem_cons.mp ha with rfl | ha
    · exact nn hls
    rcases List.mem_cons.mp ha with rfl | ha
    · exact nn hpt1
    · exact nn (e4 a ha).2
  · show sa.length = (List.replicate n []).length
    rw [e2, List.length_replicate, List.length_replicate]
  · have hs : s = [] := by
      have := List.mem_of_getElem? h2
      exact (List.mem_replicate.mp this).2
    rw [hs]
    exact (up26 (hsar a (List.mem_of_getElem? h1)) (hat i a h1)).2
  · refine List.nodup_cons.mpr ⟨fun m => ?_, List.nodup_cons.mpr ⟨fun m => ?_, e3⟩⟩
    · rcases List.mem_cons.mp m with z | m
      · have := (up26 hlr hn2).1
        have z : ls = pt := z
        rw [z, hpt] at this
        cases this
      · exact (e4 _ m).1 rfl
    · obtain ⟨i, hi⟩ := List.mem_iff_getElem?.mp m
      have := (up26 (hsar _ m) (hat i _ hi)).1
      rw [hpt] at this
      cases this
/-! ### another that bears the same -/
def spBCop (T : Txt K mg) : Sp := fun vs H Q _ => ∃ (r : Addr) (G : BG) (b : Bn), vs = [.ref r] ∧ BnAt T H r G b ∧ ∀ r' G' H', Same H H' → H r' = none → (∀ a ∈ G'.all, H a = none) → BnAt T H' r' G' b → Q (.ref r') H'
theorem ok_Bench_copied (T : Txt K mg) : FO P w K mg base 4 T.a_Bench_copied T.fd_Bench_copied ["self"] (spBCop T) := by
  have sc := sc_Bench_copied
  refine T.F_Bench_copied.okX sc (fun vs H Q E h => ?_) (fun cdv A outer s H vs Q E hr h => ?_)
  · obtain ⟨_, _, _, rfl, _⟩ := h
    rfl
  obtain ⟨r, G, b, rfl, hB, q⟩ := h
  obtain ⟨⟨dx, hI⟩, hls, hlt, hlen, hst, hnd, hok⟩ := id hB
  refine ⟨_, (pss_cons (ps_set (i := 1) sc.nd rfl (by first | exact Or.inl rfl | exact Or.inr rfl) (pe_mkS T.mk_Bench (ok_Bench_init T) (hr.mono (by decide)) (by rfl) T.g_Bench T.bd_Bench_init .nil (passAt (takes_of rfl rfl rfl rfl)) (pa_cons (pe_callB (cr_ulen) (by rfl) T.b_len bt_len (pa_cons (pe_fld (pv 0) rfl) pa_nil)) (pa_cons (pe_fld (pv 0) rfl) pa_nil))))
      (pss_cons (ps_fld (pv 1) (pe_lc (own := [("stack", 2)]) (by rfl) sc.nd (pi_list (pe_fld (pv 0) rfl)) (blkOk_by (own := [("stack", 2)]) (N := N_Bench_copied) (sc := defScope s_Bench_copied) (by decide +kernel)) (fun _ _ _ _ _ => (pg_name (i := 2) sc.nd rfl (by first | exact Or.inl rfl | exact Or.inr rfl))) (fun _ _ _ _ _ => pts_nil) (fun _ _ _ _ _ => (pe_callTy (K_list (K := K)) (by rfl) T.b_list bt_list (pa_cons (pv 2) pa_nil)))) rfl)
      (pss_cons (ps_fld (pv 1) (pe_callTy ct_list (by rfl) T.b_list bt_list (pa_cons (pe_fld (pv 0) rfl) pa_nil)) rfl)
      (pss_one (ps_ret (pv 1)))))), ?_⟩
  walk_at "begin"
  walk_at "go"
  rename_i r' dx' H1 hr' hdx' hne' hs1 hi1 hd1
  have hl4 : G.sa.length ≤ 4 := by rw [hlen]; exact hok.n4
  refine ⟨r', dx', G.sa.length, b.p, by simp, hi1, hl4, ⟨hok.p1, hok.p3⟩, fun G1 H2 hG1 hO2 hB2 => ⟨rfl, ?_⟩⟩
  have s02 : Same H H2 := Off.same1 hs1 hO2 hr'
  obtain ⟨dx2, hI2⟩ := hB2.ins
  have hI02 := s02 _ _ hI
  have hls2 := s02 _ _ hls
  have hlt2 := s02 _ _ hlt
  walk_at "go"
  refine x_lcLO [] (fun b hb => by cases hb) hls2 (by simp) (fun (Dr : Addr) (i : Nat) (acc : List V) (H' : Hp) => NewLs H2 Dr ((b.st.take i).map fun s : List (Option Int) => s.map oIV) acc H') (fun Dr i acc acc0 acc1 H' _ h => h.upd) (small64 (by rw [List.length_map]; omega)) (fun Dr _ => NewLs.nil) ?_ ?_
  · intro Dr i x acc H' hx hD hD' hO hA NY NN hY hN
    rw [List.getElem?_map] at hx
    have hil : i < G.sa.length := by
      cases e : G.sa[i]? with
      | none => rw [e] at hx; cases hx
      | some y => exact (List.getElem?_eq_some_iff.mp e).1
    have hib : i < b.st.length := hlen ▸ hil
    rw [List.getElem?_eq_getElem hil] at hx
    cases hx
    have hs2' : Same H2 H' := fun b o e => hO b o (by simp) e
    have hx' := hs2' _ _ (s02 _ _ (hst i _ _ (List.getElem?_eq_getElem hil) (List.getElem?_eq_getElem hib)))
    dsimp only [wipe]
    walk_at "go"
    refine ⟨rfl, ?_⟩
    walk_at "go"
    rename_i q1 H3 hq1 hs3 hn3
    refine hY _ _ (Off.of hs3) ?_
    show NewLs H2 Dr (List.map (fun s => List.map oIV s) (b.st.take (i + 1))) _ H3
    rw [List.take_add_one, List.getElem?_eq_getElem hib, List.map_append]
    exact hA.snoc hs3 (same_none hs2' hq1) hq1 (by rw [hD']; intro z; cases z) hn3
  intro ls acc H3 hlsn hO3 hn3 ⟨sa, e1, e2, e3, e4, e5⟩
  subst e1
  have s23 : Same H2 H3 := fun b o e => hO3 b o (by simp) e
  have hI3 := s23 _ _ hI2
  have hI03 := s23 _ _ hI02
  have hlt3 := s23 _ _ hlt2
  have e2 : sa.length = b.st.length := by rw [e2]; simp [hlen]
  have e5 : ∀ (i : Nat) (a : Addr) (s : List (Option Int)), sa[i]? = some a → b.st[i]? = some s → H3 a = some (.lst (s.map oIV)) := fun i a s h1 h2 => e5 i a _ h1 (by
    rw [List.length_map, hlen, List.take_length, List.getElem?_map, h2]
    rfl)
  have hI3 : H3 r' = some (.ins T.C_Bench dx2 [("pages", .int b.p), ("stacks", .ref G1.ls), ("times", .ref G1.lt)]) := hI3
  have hI2' := hI2
  walk_at "go"
  have nr' : ∀ {a : Addr} {o : HO}, H a = some o → a ≠ r' := fun e z => by
    rw [z, hr'] at e
    cases e
  refine x_sfO (fs' := [("pages", .int b.p), ("stacks", .ref ls), ("times", .ref G1.lt)]) hI3 rfl (fun H4 hO4 hI4 => ?_) T.cl_Bench T.na_Bench_stacks (Nat.le_of_ble_eq_true rfl)
  have hI04 := hO4.at hI03 (nin_of (nr' hI))
  have hlt4 := hO4.at hlt3 (nin_of (nr' hlt))
  dsimp only
  walk_at "go"
  rename_i pt H5 hpt hs5 hn5
  have hI5 := hs5 _ _ hI4
  refine x_sfO (fs' := [("pages", .int b.p), ("stacks", .ref ls), ("times", .ref pt)]) hI5 rfl (fun H6 hO6 hI6 => ?_) T.cl_Bench T.na_Bench_times (Nat.le_of_ble_eq_true rfl)
  dsimp only
  walk_at "go"
  have r'2 : H2 r' ≠ none := by rw [hI2']; intro z; cases z
  have lsr : ls ≠ r' := fun z => r'2 (by rw [← z]; exact hlsn)
  have sar : ∀ a ∈ sa, a ≠ r' := fun a ha z => r'2 (by rw [← z]; exact (e4 a ha).2)
  have up36 : ∀ {a : Addr} {o : HO}, a ≠ r' → H3 a = some o → H4 a = some o ∧ H6 a = some o := fun {a o} n e => by
    have h4 := hO4.at e (nin_of n)
    exact ⟨h4, hO6.at (hs5 _ _ h4) (nin_of n)⟩
  have ptr : pt ≠ r' := fun z => by rw [z, hI4] at hpt; cases hpt
  have s06 : Same H H6 := fun b o e => (up36 (nr' e) (s23 _ _ (s02 _ _ e))).2
  have hpt2 : H2 pt = none := by
    cases e : H2 pt with
    | none => rfl
    | some o =>
      rw [(up36 ptr (s23 _ _ e)).1] at hpt
      cases hpt
  have sane : ∀ a ∈ sa, H3 a ≠ none := fun a ha => by
    obtain ⟨i, hi⟩ := List.mem_iff_getElem?.mp ha
    have hl := (List.getElem?_eq_some_iff.mp hi).1
    rw [e5 i a _ hi (List.getElem?_eq_getElem (e2 ▸ hl))]
    intro z
    cases z
  refine q r' ⟨ls, pt, sa⟩ H6 s06 hr' (fun a ha => ?_) ⟨⟨dx2, hI6⟩, (up36 lsr hn3).2, hO6.at hn5 (nin_of ptr), e2, fun i a s h1 h2 => (up36 (sar a (List.mem_of_getElem? h1)) (e5 i a s h1 h2)).2, ?_, hok⟩
  · rcases List.mem_cons.mp ha with rfl | ha
    · exact same_none s02 hlsn
    rcases List.mem_cons.mp ha with rfl | ha
    · exact same_none s02 hpt2
    · exact same_none s02 (e4 a ha).2
  · refine List.nodup_cons.mpr ⟨fun m => ?_, List.nodup_cons.mpr ⟨fun m => ?_, e3⟩⟩
    · rcases List.mem_cons.mp m with z | m
      · have := (up36 lsr hn3).1
        have z : ls = pt := z
        rw [z, hpt] at this
        cases this
      · exact (e4 _ m).1 rfl
    · have m : pt ∈ sa := m
      cases e : H3 pt with
      | none => exact sane pt m e
      | some o =>
        rw [(up36 ptr e).1] at hpt
        cases hpt
/-! ### what a bench tells -/
def oD : Option Int → PyData
  | none => .none
  | some n => .int n
theorem dp_o {H : Hp} : ∀ s : List (Option Int), DpAll K H (s.map oIV) (s.map oD)
  | [] => .nil
  | none :: s => .cons .non (dp_o s)
  | some n :: s => .cons (.int n) (dp_o s)
theorem sh_o (s : List (Option Int)) : Sh 9 (.list (s.map oD)) := Sh.list (k := 8) fun d hd => by
  obtain ⟨o, _, rfl⟩ := List.mem_map.mp hd
  cases o with
  | none => exact Sh.non
  | some n => exact Sh.int
theorem x_eqNilO {H : Hp} {Q : VK} {a e : Addr} {s : List (Option Int)} (h1 : H a = some (.lst (s.map oIV))) (h2 : H e = some (.lst [])) (q : Q (.bl s.isEmpty) H) : uEq K (.ref a) (.ref e) H Q := by
  refine x_eqD (d := .list (s.map oD)) (.lst (SqL.of h1) (dp_o s)) (.lst (SqL.of h2) .nil) (sh_o s) (Sh.list (k := 8) fun d h => by simp at h) ?_
  cases s with
  | nil => exact q
  | cons o s =>
    have e : PyData.eqv (.list ((o :: s).map oD)) (.list []) = false := by
      rw [List.map_cons]
      simp [PyData.eqv, PyData.eqvAll]
    rw [e]
    exact q
def spBEmp (T : Txt K mg) : Sp := fun vs H Q _ => ∃ (r : Addr) (G : BG) (b : Bn), vs = [.ref r] ∧ BnAt T H r G b ∧ ∀ p H', Same H H' → H p = none → H' p = some (.lst (b.emp.map V.int)) → Q (.ref p) H'
theorem empP_succ (b : Bn) (i : Nat) : b.empP (i + 1) = b.empP i ++ (if (b.st.getD i []).isEmpty = true then [(b.tm.getD i 0, (i : Int))] else []) := by
  unfold Bn.empP
  rw [List.range_succ, List.filter_append, List.map_append]
  congr 1
  by_cases h : (b.st.getD i []).isEmpty = true
  · rw [if_pos h, List.filter_cons, if_pos h]
    rfl
  · rw [if_neg h, List.filter_cons, if_neg h]
    rfl
theorem ok_Bench_empty_ones (T : Txt K mg) : FO P w K mg base 1 T.a_Bench_empty_ones T.fd_Bench_empty_ones ["self"] (spBEmp T) := by
  have sc := sc_Bench_empty_ones
  refine T.F_Bench_empty_ones.okX sc (fun vs H Q E h => ?_) (fun cdv A outer s H vs Q E hr h => ?_)
  · obtain ⟨_, _, _, rfl, _⟩ := h
    rfl
  obtain ⟨r, G, b, rfl, hB, q⟩ := h
  obtain ⟨⟨dx, hI⟩, hls, hlt, hlen, hst, hnd, hok⟩ := id hB
  have hl4 := hok.n4
  refine ⟨_, (pss_cons (ps_set (i := 1) sc.nd rfl (by first | exact Or.inl rfl | exact Or.inr rfl) (pe_callB (cr_usorted) (by rfl) T.b_sorted bt_sorted (pa_cons (pe_lc (own := [("k", 2)]) (by rfl) sc.nd (pi_range1 (by rfl) T.b_range (pa_cons (pe_callB (cr_ulen) (by rfl) T.b_len bt_len (pa_cons (pe_fld (pv 0) rfl) pa_nil)) pa_nil)) (blkOk_by (own := [("k", 2)]) (N := N_Bench_empty_ones) (sc := defScope s_Bench_empty_ones) (by decide +kernel)) (fun _ _ _ _ _ => (pg_name (i := 2) sc.nd rfl (by first | exact Or.inl rfl | exact Or.inr rfl))) (fun _ _ _ _ _ => (pts_one (pt_cmpR (K_eq (K := K) hr.units) (pe_ix (K_ix (K := K)) (K_fld (K := K) (pv 0) rfl) (pv 2) (fun _ _ => rfl)) (pe_lst pa_nil) (nomark _)))) (fun _ _ _ _ _ => (pe_tup (pa_cons (pe_ix (K_ix (K := K)) (K_fld (K := K) (pv 0) rfl) (pv 2) (fun _ _ => rfl)) (pa_cons (pv 2) pa_nil))))) pa_nil)))
      (pss_one (ps_ret (pe_lc (own := [("times", 3), ("block", 4)]) (by rfl) sc.nd (pi_list (pv 1)) (blkOk_by (own := [("times", 3), ("block", 4)]) (N := N_Bench_empty_ones) (sc := defScope s_Bench_empty_ones) (by decide +kernel)) (fun _ _ _ _ _ => (K_gtup (K := K) (n := 2) (by rfl) (pgs_cons (pg_name (i := 3) sc.nd rfl (by first | exact Or.inl rfl | exact Or.inr rfl)) (pgs_cons (pg_name (i := 4) sc.nd rfl (by first | exact Or.inl rfl | exact Or.inr rfl)) pgs_nil)))) (fun _ _ _ _ _ => pts_nil) (fun _ _ _ _ _ => (pv 4)))))), ?_⟩
  walk_at "begin"
  walk_at "go"
  refine x_lcR1K (fun i acc H' => PairL H' acc (b.empP i)) (fun i acc H H' s h => h.mono s) ⟨by omega, by omega⟩ PairL.nil ?_ ?_
  · intro i acc H' hi hs' hacc NY NN hY hN
    rw [Int.toNat_natCast] at hi
    have hib : i < b.st.length := hlen ▸ hi
    have hB' := hB.mono hs'
    obtain ⟨⟨dx', hI'⟩, hls', hlt', _⟩ := id hB'
    obtain ⟨ai, hai, _, hst'⟩ := hB'.get hib
    have hix : atI (G.sa.map V.ref) (i : Int) = some (.ref ai) := atI_nat (by rw [List.getElem?_map, hai]; rfl)
    have hit : atI (b.tm.map V.int) (i : Int) = some (.int (b.tm.getD i 0)) := atI_nat (by
      have : i < b.tm.length := by rw [hok.tl]; exact hib
      rw [List.getElem?_map, List.getElem?_eq_getElem this, List.getD_eq_getElem?_getD, List.getElem?_eq_getElem this]
      rfl)
    dsimp only [wipe]
    walk_at "go"
    refine ⟨rfl, ?_⟩
    walk_at "go"
    rename_i pe H2 hpe hs2 hn2
    refine x_eqNilO (hs2 _ _ hst') hn2 ?_
    have hI2 := hs2 _ _ hI'
    have hlt2 := hs2 _ _ hlt'
    walk_at "go"
    by_cases hc : (b.st.getD i []).isEmpty = true
    · rw [if_pos hc]
      walk_at "go"
      rename_i t H3 ht hs3 hn3
      refine hY _ _ (hs2.trans hs3) ?_
      show PairL H3 _ (b.empP (i + 1))
      rw [empP_succ, if_pos hc]
      exact (hacc.mono (TupS.of (hs2.trans hs3))).snoc ⟨t, rfl, hn3⟩
    · rw [if_neg hc]
      refine hN _ hs2 ?_
      show PairL H2 _ (b.empP (i + 1))
      rw [empP_succ, if_neg hc, List.append_nil]
      exact hacc.mono (TupS.of hs2)
  intro p acc H1 hp1 hs1 hn1 hacc
  rw [Int.toNat_natCast, hlen] at hacc
  walk_at "go"
  refine x_sortP (SqL.of hn1) hacc fun q1 ys H2 hq1 hs2 hn2 hys => ?_
  walk_at "go"
  have hyl : ys.length ≤ 4 := by
    rw [hys.1, (sortP_perm _).length_eq]
    unfold Bn.empP
    rw [List.length_map]
    have := List.length_filter_le (fun k => (b.st.getD k []).isEmpty) (List.range b.st.length)
    rw [List.length_range] at this
    omega
  refine x_lcLK (SqL.of hn2) (fun i acc H' => acc = ((((sortP (b.empP b.st.length)).map Prod.snd)).take i).map V.int) (fun i acc H H' _ h => h) (small64 (by omega)) rfl ?_ ?_
  · intro i x acc H' hx hs' hacc NY NN hY hN
    have hil := (List.getElem?_eq_some_iff.mp hx).1
    obtain ⟨e, he⟩ : ∃ e, (sortP (b.empP b.st.length))[i]? = some e := ⟨_, List.getElem?_eq_getElem (by have := hys.1; omega)⟩
    obtain ⟨t, rfl, ht⟩ := hys.2 i x e hx he
    have ht' := hs' _ _ ht
    dsimp only [wipe]
    refine x_gtup2 (SqT.of ht') ?_
    refine ⟨rfl, ?_⟩
    dsimp only [List.set]
    walk_at "go"
    refine hY _ _ (fun _ _ h => h) ?_
    show acc ++ _ = List.map V.int ((List.map Prod.snd (sortP (b.empP b.st.length))).take (i + 1))
    rw [hacc, List.take_add_one, List.getElem?_map, he, List.map_append]
    rfl
  · intro p2 acc H3 hp2 hs3 hn3 hacc
    walk_at "go"
    refine q p2 H3 ((hs1.trans hs2).trans hs3) (same_none (hs1.trans hs2) hp2) ?_
    rw [hn3, hacc, hys.1, List.take_of_length_le (by rw [List.length_map]; exact Nat.le_refl _)]
    rfl
def spBBeg (T : Txt K mg) : Sp := fun vs H Q _ => ∃ (r : Addr) (G : BG) (b : Bn), vs = [.ref r] ∧ BnAt T H r G b ∧ ∀ H', Same H H' → Q (match b.beg with | none => .non | some k => .int (k : Int)) H'
theorem ok_Bench_begun (T : Txt K mg) : FO P w K mg base 1 T.a_Bench_begun T.fd_Bench_begun ["self"] (spBBeg T) := by
  have sc := sc_Bench_begun
  refine T.F_Bench_begun.okX sc (fun vs H Q E h => ?_) (fun cdv A outer s H vs Q E hr h => ?_)
  · obtain ⟨_, _, _, rfl, _⟩ := h
    rfl
  obtain ⟨r, G, b, rfl, hB, q⟩ := h
  obtain ⟨⟨dx, hI⟩, hls, hlt, hlen, hst, hnd, hok⟩ := id hB
  refine ⟨_, (pss_cons (ps_for (passes_of rfl) rfl (pi_enum (by rfl) T.b_enumerate (pa_cons (pe_fld (pv 0) rfl) pa_nil)) (pg_tup (by rfl) (pgs_cons (pg_name (i := 1) sc.nd rfl (by first | exact Or.inl rfl | exact Or.inr rfl)) (pgs_cons (pg_name (i := 2) sc.nd rfl (by first | exact Or.inl rfl | exact Or.inr rfl)) pgs_nil))) (pss_one (ps_if (pt_chain op_uLt op_uLt pe_int (pe_callB (cr_ulen) (by rfl) T.b_len bt_len (pa_cons (pv 2) pa_nil)) (pe_fld (pv 0) rfl)) (pss_one (ps_ret (pv 1))) pss_nil)))
      (pss_one (ps_ret pe_non))), ?_⟩
  walk_at "begin"
  walk_at "go"
  refine x_seq ?_
  walk_at "go"
  refine x_frEn (SqL.of hls) (fun i σ H' => ∃ (v1 v2 : Option V), σ = [some (.ref r), v1, v2] ∧ Same H H' ∧ ∀ j, (hj : j < b.st.length) → j < i → isPart b.p b.st[j] = false) ⟨_, _, rfl, fun _ _ h => h, fun j _ h => by omega⟩ (fun i σ H' _ ⟨_, _, _, s, _⟩ => s.seq (SqL.of hls)) ?_ ?_
  · intro i x σ H1 H2 hx ⟨v1, v2, hσ, hs1, hno⟩ hs2
    subst hσ
    dsimp only [List.set]
    have s02 := hs1.trans hs2
    have hB' := hB.mono s02
    rw [List.getElem?_map] at hx
    cases hg : G.sa[i]? with
    | none => rw [hg] at hx; cases hx
    | some ai =>
      rw [hg] at hx
      cases hx
      have hib : i < b.st.length := hlen ▸ (List.getElem?_eq_some_iff.mp hg).1
      have hai := hB'.st i ai _ hg (List.getElem?_eq_getElem hib)
      obtain ⟨⟨dx', hI'⟩, _⟩ := id hB'
      walk_at "go"
      have e0 : isPart b.p b.st[i] = decide ((0 : Int) < (b.st[i].length : Int) ∧ (b.st[i].length : Int) < b.p) := rfl
      refine x_iteD (fun h0 => ?_) (fun h0 => ?_)
      · walk_at "go"
        refine x_iteD (fun h1 => ?_) (fun h1 => ?_)
        · walk_at "go"
          have e : b.beg = some i := List.findIdx?_eq_some_iff_getElem.mpr ⟨hib, by rw [e0]; exact decide_eq_true ⟨h0, h1⟩, fun j hj => by rw [hno j (by omega) hj]; decide⟩
          rw [e] at q
          exact q H2 s02
        · walk_at "go"
          refine ⟨_, _, rfl, s02, fun j hj hji => ?_⟩
          rcases Nat.lt_or_ge j i with h | h
          · exact hno j hj h
          · have : j = i := by omega
            subst this
            rw [e0]
            exact decide_eq_false (fun z => h1 z.2)
      · walk_at "go"
        refine ⟨_, _, rfl, s02, fun j hj hji => ?_⟩
        rcases Nat.lt_or_ge j i with h | h
        · exact hno j hj h
        · have : j = i := by omega
          subst this
          rw [e0]
          exact decide_eq_false (fun z => h0 z.1)
  · intro σ H1 ⟨v1, v2, hσ, hs1, hno⟩
    subst hσ
    dsimp only
    walk_at "go"
    have e : b.beg = none := List.findIdx?_eq_none_iff.mpr fun s hs => by
      obtain ⟨j, hj⟩ := List.mem_iff_getElem?.mp hs
      have hjl := (List.getElem?_eq_some_iff.mp hj).1
      have := hno j hjl (by rw [List.length_map, hlen]; exact hjl)
      rw [List.getElem?_eq_getElem hjl] at hj
      rw [← Option.some.inj hj, this]
    rw [e] at q
    exact q H1 hs1
def spBRdy (T : Txt K mg) : Sp := fun vs H Q _ => ∃ (r : Addr) (G : BG) (b : Bn), vs = [.ref r] ∧ BnAt T H r G b ∧ ∀ H', Same H H' → Q (.bl b.rdy) H'
theorem mBEmp (T : Txt K mg) {n : Nat} (h : 1 ≤ n) : MO P w K mg base (L2.CX P w) n T.C_Bench "empty_ones" (spBEmp T) := ⟨⟨_, _, _, T.cl_Bench, T.m_Bench_empty_ones, (ok_Bench_empty_ones T).mono h, T.bd_Bench_empty_ones⟩⟩
theorem mBBeg (T : Txt K mg) {n : Nat} (h : 1 ≤ n) : MO P w K mg base (L2.CX P w) n T.C_Bench "begun" (spBBeg T) := ⟨⟨_, _, _, T.cl_Bench, T.m_Bench_begun, (ok_Bench_begun T).mono h, T.bd_Bench_begun⟩⟩
theorem ok_Bench_is_ready (T : Txt K mg) : FO P w K mg base 2 T.a_Bench_is_ready T.fd_Bench_is_ready ["self"] (spBRdy T) := by
  have sc := sc_Bench_is_ready
  refine T.F_Bench_is_ready.okX sc (fun vs H Q E h => ?_) (fun cdv A outer s H vs Q E hr h => ?_)
  · obtain ⟨_, _, _, rfl, _⟩ := h
    rfl
  obtain ⟨r, G, b, rfl, hB, q⟩ := h
  obtain ⟨dx, hI⟩ := id hB.ins
  refine ⟨_, (pss_cons (ps_set (i := 1) sc.nd rfl (by first | exact Or.inl rfl | exact Or.inr rfl) (pe_callB (cr_ulen) (by rfl) T.b_len bt_len (pa_cons (pe_methD0 (k := 1) (pv 0) (hr.mono (by decide)) (passAt (takes_of rfl rfl rfl rfl))) pa_nil)))
      (pss_one (ps_ret (pe_orT (pe_cmpR op_gt (pv 1) pe_int (nomark _)) (pe_one (pe_andT (pe_cmpR (op_uEq hr.units) (pv 1) pe_int (nomark _)) (pe_one (pe_cmpR op_uIsNot (pe_methD0 (k := 1) (pv 0) (hr.mono (by decide)) (passAt (takes_of rfl rfl rfl rfl))) pe_non (nomark _))))))))), ?_⟩
  walk_at "begin"
  walk_at "go"
  refine x_mtK hI (mBEmp T (Nat.le_refl _)) rfl ?_
  walk_at "go"
  refine ⟨r, G, b, rfl, hB, fun p1 H1 hs1 hp1 hn1 => ?_⟩
  have hB1 := hB.mono hs1
  have hI1 := hs1 _ _ hI
  walk_at "go"
  unfold Bn.rdy at q
  refine x_iteD (fun h => ?_) (fun h => ?_)
  · rw [decide_eq_true h]
    rw [decide_eq_true (show 1 < b.emp.length by omega)] at q
    exact q H1 hs1
  rw [decide_eq_false (show ¬ 1 < b.emp.length by omega), Bool.false_or] at q
  walk_at "go"
  refine x_iteD (fun h1 => ?_) (fun h1 => ?_)
  · rw [decide_eq_true (show b.emp.length = 1 by omega), Bool.true_and] at q
    walk_at "go"
    refine x_mtK hI1 (mBBeg T (Nat.le_refl _)) rfl ?_
    walk_at "go"
    refine ⟨r, G, b, rfl, hB1, fun H2 hs2 => ?_⟩
    cases hb : b.beg with
    | none =>
      rw [hb] at q
      walk_at "go"
      exact q H2 (hs1.trans hs2)
    | some k =>
      rw [hb] at q
      walk_at "go"
      exact q H2 (hs1.trans hs2)
  · rw [decide_eq_false (show ¬ b.emp.length = 1 by omega), Bool.false_and] at q
    rw [decide_eq_false h1]
    exact q H1 hs1
/-! ### a sheet laid down -/
def mapN {α : Type} (f : α → α) (i : Nat) (l : List α) : List α := (l.take i).map f ++ l.drop i
theorem mapN_all {α : Type} (f : α → α) (l : List α) : mapN f l.length l = l.map f := by
  unfold mapN
  rw [List.take_length, List.drop_length, List.append_nil]
theorem mapN_at {α : Type} (f : α → α) (i : Nat) (l : List α) (hi : i < l.length) : (mapN f i l)[i]? = some l[i] := by
  unfold mapN
  have e : ((l.take i).map f).length = i := by rw [List.length_map, List.length_take]; omega
  rw [List.getElem?_append_right (by omega), e, Nat.sub_self, List.getElem?_drop, Nat.add_zero, List.getElem?_eq_getElem hi]
theorem mapN_succ {α : Type} (f : α → α) (i : Nat) (l : List α) (hi : i < l.length) : (mapN f i l).set i (f l[i]) = mapN f (i + 1) l := by
  unfold mapN
  have e : ((l.take i).map f).length = i := by rw [List.length_map, List.length_take]; omega
  rw [List.set_append_right _ _ (by omega), e, Nat.sub_self, List.drop_eq_getElem_cons hi, List.set_cons_zero, List.take_add_one, List.getElem?_eq_getElem hi, List.map_append, List.append_assoc]
  rfl
theorem BnAt.setS {T : Txt K mg} {H H1 : Hp} {r a : Addr} {G : BG} {b : Bn} {k : Nat} {s' : List (Option Int)} (h : BnAt T H r G b) (hk : G.sa[k]? = some a) (hO : Off [a] H H1) (ha : H1 a = some (.lst (s'.map oIV))) (hs : (s'.length : Int) ≤ b.p) : BnAt T H1 r G { b with st := b.st.set k s' } := by
  obtain ⟨⟨dx, hI⟩, hls, hlt, hlen, hst, hnd, hok⟩ := id h
  have ham := List.mem_of_getElem? hk
  have hnd' := List.nodup_cons.mp hnd
  have hnd2 := List.nodup_cons.mp hnd'.2
  have n1 : G.ls ≠ a := fun z => hnd'.1 (by rw [z]; exact List.mem_cons_of_mem _ ham)
  have n2 : G.lt ≠ a := fun z => hnd2.1 (by rw [z]; exact ham)
  have n3 : r ≠ a := fun z => h.rne (by rw [z]; exact List.mem_cons_of_mem _ (List.mem_cons_of_mem _ ham))
  refine ⟨⟨dx, hO.at hI (nin_of n3)⟩, hO.at hls (nin_of n1), hO.at hlt (nin_of n2), by show _ = (b.st.set k s').length; rw [List.length_set]; exact hlen, fun i x t h1 h2 => ?_, hnd, ⟨?_, ?_, hok.p1, hok.p3, fun t ht => ?_⟩⟩
  · have h2 : (b.st.set k s')[i]? = some t := h2
    by_cases hik : i = k
    · subst hik
      rw [hk] at h1
      cases h1
      have hl : i < b.st.length := hlen ▸ (List.getElem?_eq_some_iff.mp hk).1
      rw [List.getElem?_set_self hl] at h2
      cases h2
      exact ha
    · rw [List.getElem?_set_ne (fun z => hik z.symm)] at h2
      have hxa : x ≠ a := fun z => by
        subst z
        have e1 := List.getElem?_eq_some_iff.mp h1
        have e2 := List.getElem?_eq_some_iff.mp hk
        exact hik ((List.getElem?_inj e1.1 hnd2.2).mp (h1.trans hk.symm))
      exact hO.at (hst i x t h1 h2) (nin_of hxa)
  · show (b.st.set k s').length ≤ 4
    rw [List.length_set]
    exact hok.n4
  · show b.tm.length = (b.st.set k s').length
    rw [List.length_set]
    exact hok.tl
  · rcases List.mem_or_eq_of_mem_set ht with ht | rfl
    · exact hok.sz t ht
    · exact hs
theorem killS_id {x : Int} {s : List (Option Int)} (h : s.contains (some x) = false) : killS x s = s := by
  unfold killS
  refine List.set_eq_of_length_le ?_
  have : some x ∉ s := fun m => by
    rw [List.contains_iff_mem.mpr m] at h
    cases h
  rw [List.idxOf_eq_length this]
  exact Nat.le_refl _
def spBLay (T : Txt K mg) : Sp := fun vs H Q _ => ∃ (r : Addr) (G : BG) (b b' : Bn) (x : Int), vs = [.ref r, .int x] ∧ BnAt T H r G b ∧ b.lay x = some b' ∧ ∀ H', Off G.sa H H' → BnAt T H' r G b' → Q .non H'
theorem ok_Bench_lay_down (T : Txt K mg) : FO P w K mg base 2 T.a_Bench_lay_down T.fd_Bench_lay_down ["self", "sheet"] (spBLay T) := by
  have sc := sc_Bench_lay_down
  refine T.F_Bench_lay_down.okX sc (fun vs H Q E h => ?_) (fun cdv A outer s H vs Q E hr h => ?_)
  · obtain ⟨_, _, _, _, _, rfl, _⟩ := h
    rfl
  obtain ⟨r, G, b, b', x, rfl, hB, he, q⟩ := h
  obtain ⟨⟨dx, hI⟩, hls, hlt, hlen, hst, hnd, hok⟩ := id hB
  have hl4 := hok.n4
  have hnls : G.ls ∉ G.sa := fun m => (List.nodup_cons.mp hnd).1 (List.mem_cons_of_mem _ m)
  refine ⟨_, (pss_cons (ps_for (passes_of rfl) rfl (pi_list (pe_fld (pv 0) rfl)) (pg_name (i := 2) sc.nd rfl (by first | exact Or.inl rfl | exact Or.inr rfl)) (pss_one (ps_if (pt_cmpR op_uIn (pv 1) (pv 2) (by rfl)) (pss_one (ps_asg pe_non (pg_sub (pv 2) (pe_bm PySem.F.plainAttrs_list PySem.F.slot_list_index PySem.F.type_list_index mt_index (pv 2) (pa_cons (pv 1) pa_nil)) set_list))) pss_nil)))
      (pss_cons (ps_set (i := 3) sc.nd rfl (by first | exact Or.inl rfl | exact Or.inr rfl) (pe_methD0 (k := 1) (pv 0) (hr.mono (by decide)) (passAt (takes_of rfl rfl rfl rfl))))
      (pss_cons (ps_if (pt_cmpR op_uIs (pv 3) pe_non (nomark _)) (pss_one (ps_set (i := 3) sc.nd rfl (by first | exact Or.inl rfl | exact Or.inr rfl) (pe_ix ix_seq (pe_methD0 (k := 1) (pv 0) (hr.mono (by decide)) (passAt (takes_of rfl rfl rfl rfl))) pe_int (fun _ _ => rfl)))) pss_nil)
      (pss_one (ps_expr (pe_bm PySem.F.plainAttrs_list PySem.F.slot_list_append PySem.F.type_list_append mt_append (pe_ix ix_seq (pe_fld (pv 0) rfl) (pv 3) (fun _ _ => rfl)) (pa_cons (pv 1) pa_nil))))))), ?_⟩
  walk_at "begin"
  walk_at "go"
  refine x_seq ?_
  walk_at "go"
  refine x_frL (SqL.of hls) (fun i σ H' => ∃ (v2 : Option V), σ = [some (.ref r), some (.int x), v2, none] ∧ Off G.sa H H' ∧ BnAt T H' r G { b with st := mapN (killS x) i b.st }) ⟨_, rfl, Off.refl, hB⟩ (fun i σ H' _ ⟨_, _, s, _⟩ => SqL.of (s _ _ hnls hls)) ?_ ?_
  · intro i y σ H1 hy ⟨v2, hσ, hO1, hB1⟩
    subst hσ
    rw [List.getElem?_map] at hy
    cases hg : G.sa[i]? with
    | none => rw [hg] at hy; cases hy
    | some ai =>
      rw [hg] at hy
      cases hy
      have hib : i < b.st.length := hlen ▸ (List.getElem?_eq_some_iff.mp hg).1
      have hai := hB1.st i ai _ hg (mapN_at (killS x) i b.st hib)
      have hsz : ((killS x b.st[i]).length : Int) ≤ b.p := by rw [killS_len]; exact hok.sz _ (List.getElem_mem hib)
      have hstep := mapN_succ (killS x) i b.st hib
      walk_at "go"
      refine x_inO (SqL.of hai) ?_
      walk_at "go"
      by_cases hc : b.st[i].contains (some x) = true
      · rw [if_pos hc]
        walk_at "go"
        refine x_idxO (SqL.of hai) hc ?_
        have hm : some x ∈ b.st[i] := List.contains_iff_mem.mp hc
        have hlm := List.idxOf_lt_length_of_mem hm
        refine x_setL hai (fun H2 hO2 hn2 => ?_) (by omega) (by rw [List.length_map]; omega)
        rw [Int.toNat_natCast] at hn2
        walk_at "go"
        refine ⟨_, rfl, hO1.trans (hO2.sub fun z hz => by rw [List.mem_singleton.mp hz]; exact List.mem_of_getElem? hg), ?_⟩
        have := hB1.setS (s' := killS x b.st[i]) hg hO2 (by rw [hn2]; unfold killS; rw [List.map_set]; rfl) hsz
        rw [← hstep]
        exact this
      · rw [if_neg hc]
        walk_at "go"
        refine ⟨_, rfl, hO1, ?_⟩
        have hid := killS_id (x := x) (by simpa using hc)
        rw [← hstep, hid]
        have e : (mapN (killS x) i b.st).set i b.st[i] = mapN (killS x) i b.st := by
          have hh := mapN_at (killS x) i b.st hib
          have hl := (List.getElem?_eq_some_iff.mp hh).1
          have hh2 := (List.getElem?_eq_some_iff.mp hh).2
          rw [← hh2]
          exact List.set_getElem_self hl
        rw [e]
        exact hB1
  · intro σ H1 ⟨v2, hσ, hO1, hB1⟩
    subst hσ
    rw [List.length_map, hlen, mapN_all] at hB1
    have hB1 : BnAt T H1 r G (b.kill x) := hB1
    obtain ⟨dx1, hI1⟩ := id hB1.ins
    unfold Bn.lay at he
    dsimp only
    walk_at "go"
    refine x_mtK hI1 (mBBeg T (Nat.le_refl _)) rfl ?_
    walk_at "go"
    refine ⟨r, G, _, rfl, hB1, fun H2 hs2 => ?_⟩
    have hB2 := hB1.mono hs2
    obtain ⟨dx2, hI2⟩ := id hB2.ins
    cases hsp : (b.kill x).spot with
    | none => rw [hsp] at he; cases he
    | some k =>
      rw [hsp] at he
      cases he
      have hklt := Bn.spot_lt hB1.ok hsp
      walk_at "go"
      refine x_join (fun σ' H' => Off G.sa H H' ∧ BnAt T H' r G (b.kill x) ∧ ∃ v2, σ' = [some (.ref r), some (.int x), v2, some (.int (k : Int))]) (fun R hR => ?_) ?_
      · unfold Bn.spot at hsp
        cases hb : (b.kill x).beg with
        | some j =>
          rw [hb] at hsp
          cases hsp
          walk_at "go"
          rw [if_neg (by rw [show decide (V.int (k : Int) = V.non) = false from decide_eq_false fun z => by cases z]; decide)]
          walk_at "go"
          exact hR _ _ ⟨hO1.trans (Off.of hs2), hB2, _, rfl⟩
        | none =>
          rw [hb] at hsp
          have hsp : (b.kill x).emp.head?.map Int.toNat = some k := hsp
          walk_at "go"
          rw [if_pos (by decide)]
          walk_at "go"
          refine x_mtK hI2 (mBEmp T (Nat.le_refl _)) rfl ?_
          walk_at "go"
          refine ⟨r, G, _, rfl, hB2, fun p1 H3 hs3 hp3 hn3 => ?_⟩
          cases hem : (b.kill x).emp with
          | nil => rw [hem] at hsp; cases hsp
          | cons e es =>
            rw [hem] at hsp hn3
            have hsp := Option.some.inj hsp
            obtain ⟨j, e1, e2, e3⟩ := emp_mem (show e ∈ (b.kill x).emp by rw [hem]; exact List.mem_cons_self)
            have ejk : e = (k : Int) := by omega
            rw [ejk] at hn3
            have hat : atI (List.map V.int ((k : Int) :: es)) 0 = some (.int (k : Int)) := atI_nat (j := 0) rfl
            walk_at "go"
            exact hR _ _ ⟨(hO1.trans (Off.of hs2)).trans (Off.of hs3), hB2.mono hs3, _, rfl⟩
      · intro σ' H3 ⟨hO3, hB3, v2, hσ⟩
        subst hσ
        obtain ⟨⟨dx3, hI3⟩, hls3, _⟩ := id hB3
        obtain ⟨a, hga, ham, hna⟩ := hB3.get hklt.1
        have hat : atI (G.sa.map V.ref) (k : Int) = some (.ref a) := atI_nat (by rw [List.getElem?_map, hga]; rfl)
        have hsl : (List.map oIV ((b.kill x).st.getD k [])).length < sizeLine := small64 (by
          have := hB3.ok.p3
          have h2 := hklt.2
          rw [List.length_map]
          have h2 : (((b.kill x).st.getD k []).length : Int) < (b.kill x).p := h2
          omega)
        walk_at "go"
        have hsz : (((b.kill x).st.getD k [] ++ [some x]).length : Int) ≤ (b.kill x).p := by
          have h2 : (((b.kill x).st.getD k []).length : Int) < (b.kill x).p := hklt.2
          rw [List.length_append, List.length_singleton]
          omega
        exact q _ (hO3.trans (Off.upd ham)) (hB3.setS (k := k) (s' := (b.kill x).st.getD k [] ++ [some x]) hga (Off.upd (List.mem_singleton.mpr rfl)) (by rw [upd_same, List.map_append]; rfl) hsz)
theorem mBRdy (T : Txt K mg) {n : Nat} (h : 2 ≤ n) : MO P w K mg base (L2.CX P w) n T.C_Bench "is_ready" (spBRdy T) := ⟨⟨_, _, _, T.cl_Bench, T.m_Bench_is_ready, (ok_Bench_is_ready T).mono h, T.bd_Bench_is_ready⟩⟩
theorem mBLay (T : Txt K mg) {n : Nat} (h : 2 ≤ n) : MO P w K mg base (L2.CX P w) n T.C_Bench "lay_down" (spBLay T) := ⟨⟨_, _, _, T.cl_Bench, T.m_Bench_lay_down, (ok_Bench_lay_down T).mono h, T.bd_Bench_lay_down⟩⟩
theorem mBCop (T : Txt K mg) {n : Nat} (h : 4 ≤ n) : MO P w K mg base (L2.CX P w) n T.C_Bench "copied" (spBCop T) := ⟨⟨_, _, _, T.cl_Bench, T.m_Bench_copied, (ok_Bench_copied T).mono h, T.bd_Bench_copied⟩⟩
/-! ### the blocks that may be cleared -/
def spBChs (T : Txt K mg) : Sp := fun vs H Q _ => ∃ (r : Addr) (G : BG) (b : Bn), vs = [.ref r] ∧ BnAt T H r G b ∧ ∀ p H', Same H H' → H p = none → H' p = some (.lst ((b.chs.map fun k : Nat => (k : Int)).map V.int)) → Q (.ref p) H'
theorem ok_Bench_choices (T : Txt K mg) : FO P w K mg base 1 T.a_Bench_choices T.fd_Bench_choices ["self"] (spBChs T) := by
  have sc := sc_Bench_choices
  refine T.F_Bench_choices.okX sc (fun vs H Q E h => ?_) (fun cdv A outer s H vs Q E hr h => ?_)
  · obtain ⟨_, _, _, rfl, _⟩ := h
    rfl
  obtain ⟨r, G, b, rfl, hB, q⟩ := h
  obtain ⟨⟨dx, hI⟩, hls, hlt, hlen, hst, hnd, hok⟩ := id hB
  have hl4 := hok.n4
  refine ⟨_, (pss_one (ps_ret (pe_lc (own := [("k", 1)]) (by rfl) sc.nd (pi_range1 (by rfl) T.b_range (pa_cons (pe_callB (cr_ulen) (by rfl) T.b_len bt_len (pa_cons (pe_fld (pv 0) rfl) pa_nil)) pa_nil)) (blkOk_by (own := [("k", 1)]) (N := N_Bench_choices) (sc := defScope s_Bench_choices) (by decide +kernel)) (fun _ _ _ _ _ => (pg_name (i := 1) sc.nd rfl (by first | exact Or.inl rfl | exact Or.inr rfl))) (fun _ _ _ _ _ => (pts_one (PW.pt (pw_and (pt_cmpR (K_eq (K := K) hr.units) (pe_callB ((K_ulen (K := K))) (by rfl) T.b_len bt_len (pa_cons (pe_ix (K_ix (K := K)) (K_fld (K := K) (pv 0) rfl) (pv 1) (fun _ _ => rfl)) pa_nil)) (K_fld (K := K) (pv 0) rfl) (nomark _)) (pw_and1 (pt_cmpR (K_in (K := K)) pe_non (pe_ix (K_ix (K := K)) (K_fld (K := K) (pv 0) rfl) (pv 1) (fun _ _ => rfl)) (by rfl))))))) (fun _ _ _ _ _ => (pv 1))))), ?_⟩
  walk_at "begin"
  walk_at "go"
  refine x_lcR1K (fun i acc H' => acc = (((List.range i).filter b.isCh).map fun k : Nat => (k : Int)).map V.int) (fun i acc H H' s h => h) ⟨by omega, by omega⟩ rfl ?_ ?_
  · intro i acc H' hi hs' hacc NY NN hY hN
    rw [Int.toNat_natCast] at hi
    have hib : i < b.st.length := hlen ▸ hi
    have hB' := hB.mono hs'
    obtain ⟨⟨dx', hI'⟩, hls', hlt', _⟩ := id hB'
    obtain ⟨ai, hai, _, hst'⟩ := hB'.get hib
    have hix : atI (G.sa.map V.ref) (i : Int) = some (.ref ai) := atI_nat (by rw [List.getElem?_map, hai]; rfl)
    have er : (List.range (i + 1)).filter b.isCh = (List.range i).filter b.isCh ++ (if b.isCh i = true then [i] else []) := by
      rw [List.range_succ, List.filter_append, List.filter_cons]
      rfl
    have no : b.isCh i = false → NN H' := fun e => hN _ (fun _ _ h => h) (by
      show acc = List.map V.int (List.map (fun k : Nat => (k : Int)) ((List.range (i + 1)).filter b.isCh))
      rw [er, e, if_neg (by decide), List.append_nil]
      exact hacc)
    have yes : b.isCh i = true → NY (.int (i : Int)) H' := fun e => hY _ _ (fun _ _ h => h) (by
      show acc ++ _ = List.map V.int (List.map (fun k : Nat => (k : Int)) ((List.range (i + 1)).filter b.isCh))
      rw [er, e, if_pos rfl, List.map_append, List.map_append, hacc]
      rfl)
    dsimp only [wipe]
    walk_at "go"
    refine ⟨rfl, ?_⟩
    walk_at "go"
    refine x_iteD (fun h => ?_) (fun h => ?_)
    · walk_at "go"
      refine x_inN (SqL.of hst') ?_
      walk_at "go"
      by_cases hc : (b.st.getD i []).contains none = true
      · rw [if_pos hc]
        walk_at "go"
        exact yes (by unfold Bn.isCh; rw [decide_eq_true h, hc]; rfl)
      · rw [if_neg hc]
        exact no (by unfold Bn.isCh; rw [show (b.st.getD i []).contains none = false by simpa using hc, Bool.and_false])
    · rw [if_neg (by decide)]
      exact no (by unfold Bn.isCh; rw [decide_eq_false h, Bool.false_and])
  intro p acc H1 hp1 hs1 hn1 hacc
  rw [Int.toNat_natCast, hlen] at hacc
  walk_at "go"
  exact q p H1 hs1 hp1 (by rw [hn1, hacc]; rfl)
/-! ### a block cleared out -/
theorem mBChs (T : Txt K mg) {n : Nat} (h : 1 ≤ n) : MO P w K mg base (L2.CX P w) n T.C_Bench "choices" (spBChs T) := ⟨⟨_, _, _, T.cl_Bench, T.m_Bench_choices, (ok_Bench_choices T).mono h, T.bd_Bench_choices⟩⟩
theorem nodup_set {α : Type} : ∀ {l : List α} {k : Nat} {x : α}, l.Nodup → x ∉ l → (l.set k x).Nodup
  | [], _, _, h, _ => h
  | y :: l, 0, x, h, n => by
    rw [List.set_cons_zero]
    have h := List.nodup_cons.mp h
    exact List.nodup_cons.mpr ⟨fun m => n (List.mem_cons_of_mem _ m), h.2⟩
  | y :: l, k + 1, x, h, n => by
    rw [List.set_cons_succ]
    have h := List.nodup_cons.mp h
    refine List.nodup_cons.mpr ⟨fun m => ?_, nodup_set h.2 (fun m => n (List.mem_cons_of_mem _ m))⟩
    rcases List.mem_or_eq_of_mem_set m with m | z
    · exact h.1 m
    · exact n (by rw [← z]; exact List.mem_cons_self)
def spBClr (T : Txt K mg) : Sp := fun vs H Q _ => ∃ (r : Addr) (G : BG) (b b' : Bn) (k : Nat) (m : Int), vs = [.ref r, .int (k : Int)] ∧ BnAt T H r G b ∧ k < b.st.length ∧ b.clr k = some (b', m) ∧
  ∀ G' H', Off G.all H H' → (∀ a ∈ G'.all, a ∈ G.all ∨ H a = none) → BnAt T H' r G' b' → Q (.int m) H'
theorem ok_Bench_clear_out (T : Txt K mg) : FO P w K mg base 3 T.a_Bench_clear_out T.fd_Bench_clear_out ["self", "block"] (spBClr T) := by
  have sc := sc_Bench_clear_out
  refine T.F_Bench_clear_out.okX sc (fun vs H Q E h => ?_) (fun cdv A outer s H vs Q E hr h => ?_)
  · obtain ⟨_, _, _, _, _, _, rfl, _⟩ := h
    rfl
  obtain ⟨r, G, b, b', k, m, rfl, hB, hk, he, q⟩ := h
  obtain ⟨⟨dx, hI⟩, hls, hlt, hlen, hst, hnd, hok⟩ := id hB
  obtain ⟨ak, hak, hakm, hnk⟩ := hB.get hk
  have hix : atI (G.sa.map V.ref) (k : Int) = some (.ref ak) := atI_nat (by rw [List.getElem?_map, hak]; rfl)
  have hsz : (b.st.getD k []).length ≤ 3 := by
    have := hok.sz _ (List.getElem_mem hk)
    have h3 := hok.p3
    rw [List.getD_eq_getElem?_getD, List.getElem?_eq_getElem hk]
    show (b.st[k]).length ≤ 3
    omega
  unfold Bn.clr at he
  cases hly : b.lays (b.mv k) with
  | none => rw [hly] at he; cases he
  | some bE =>
    rw [hly] at he
    cases he
    refine ⟨_, (pss_cons (ps_setLc (i := 2) (own := [("sheet", 3)]) (by rfl) sc.nd rfl rfl (sw_true rfl rfl rfl (by decide +kernel)) (pi_list (pe_ix ix_seq (pe_fld (pv 0) rfl) (pv 1) (fun _ _ => rfl))) (blkOk_by (own := [("sheet", 3)]) (N := N_Bench_clear_out) (sc := defScope s_Bench_clear_out) (by decide +kernel)) (fun _ _ _ _ _ => (pg_name (i := 3) sc.nd rfl (by first | exact Or.inl rfl | exact Or.inr rfl))) (fun _ _ _ _ _ => (pts_one (pt_cmpR op_uIsNot (pv 3) pe_non (nomark _)))) (fun _ _ _ _ _ => (pv 3)))
      (pss_cons (ps_for (passes_of rfl) rfl (pi_list (pv 2)) (pg_name (i := 3) sc.nd rfl (by first | exact Or.inl rfl | exact Or.inr rfl)) (pss_one (ps_expr (pe_methD (k := 2) (pv 0) (hr.mono (by decide)) (passAt (takes_of rfl rfl rfl rfl)) (pa_cons (pv 3) pa_nil)))))
      (pss_cons (ps_asg (pe_lst pa_nil) (pg_sub (pe_fld (pv 0) rfl) (pv 1) set_list))
      (pss_cons (ps_augS (pe_fld (pv 0) rfl) (pv 1) get_list pe_int ip_add set_list)
      (pss_one (ps_ret (pe_callB (cr_ulen) (by rfl) T.b_len bt_len (pa_cons (pv 2) pa_nil)))))))), ?_⟩
    walk_at "begin"
    walk_at "go"
    refine x_lcLK (SqL.of hnk) (fun i acc H' => acc = ((((b.st.getD k []).take i).filterMap id).map V.int)) (fun i acc H H' _ h => h) (small64 (by rw [List.length_map]; omega)) rfl ?_ ?_
    · intro i x acc H' hx hs' hacc NY NN hY hN
      rw [List.getElem?_map] at hx
      cases ho : (b.st.getD k [])[i]? with
      | none => rw [ho] at hx; cases hx
      | some o =>
        rw [ho] at hx
        cases hx
        have et : (b.st.getD k []).take (i + 1) = (b.st.getD k []).take i ++ [o] := by rw [List.take_add_one, ho]; rfl
        dsimp only [wipe]
        walk_at "go"
        refine ⟨rfl, ?_⟩
        cases o with
        | none =>
          walk_at "go"
          rw [if_pos (by decide)]
          refine hN _ (fun _ _ h => h) ?_
          show acc = List.map V.int (((b.st.getD k []).take (i + 1)).filterMap id)
          rw [et, List.filterMap_append, hacc]
          simp
        | some n =>
          walk_at "go"
          rw [if_neg (by rw [show decide (oIV (some n) = V.non) = false from decide_eq_false fun z => by cases z]; decide)]
          walk_at "go"
          refine hY _ _ (fun _ _ h => h) ?_
          show acc ++ _ = List.map V.int (((b.st.getD k []).take (i + 1)).filterMap id)
          rw [et, List.filterMap_append, hacc]
          simp
          rfl
    intro pm acc H1 hpm hs1 hn1 hacc
    rw [List.length_map, List.take_length] at hacc
    subst hacc
    have hn1 : H1 pm = some (.lst ((b.mv k).map V.int)) := hn1
    walk_at "go"
    refine x_seq ?_
    walk_at "go"
    have hB1 := hB.mono hs1
    have hpmG : pm ∉ G.sa := fun mm => by
      obtain ⟨i, hi⟩ := List.mem_iff_getElem?.mp mm
      have := hst i pm _ hi (List.getElem?_eq_getElem (hlen ▸ (List.getElem?_eq_some_iff.mp hi).1))
      rw [hpm] at this
      cases this
    refine x_frL (SqL.of hn1) (fun i σ H' => ∃ (v3 : Option V) (bi : Bn), σ = [some (.ref r), some (.int (k : Int)), some (.ref pm), v3] ∧ Off G.sa H1 H' ∧ BnAt T H' r G bi ∧ bi.lays ((b.mv k).drop i) = some bE) ⟨_, b, rfl, Off.refl, hB1, hly⟩ (fun i σ H' _ ⟨_, _, _, s, _⟩ => SqL.of (s _ _ hpmG hn1)) ?_ ?_
    · intro i x σ H2 hx ⟨v3, bi, hσ, hO2, hB2, hl2⟩
      subst hσ
      rw [List.getElem?_map] at hx
      cases hg : (b.mv k)[i]? with
      | none => rw [hg] at hx; cases hx
      | some n =>
        rw [hg] at hx
        cases hx
        have hil := (List.getElem?_eq_some_iff.mp hg).1
        have ed : (b.mv k).drop i = n :: (b.mv k).drop (i + 1) := by
          rw [List.drop_eq_getElem_cons hil]
          congr 1
          exact (List.getElem?_eq_some_iff.mp hg).2
        rw [ed] at hl2
        cases hbl : bi.lay n with
        | none => rw [Bn.lays, hbl] at hl2; cases hl2
        | some b2 =>
          rw [Bn.lays, hbl] at hl2
          obtain ⟨dx2, hI2⟩ := id hB2.ins
          walk_at "go"
          refine x_mtK hI2 (mBLay T (Nat.le_refl _)) rfl ?_
          walk_at "go"
          refine ⟨r, G, bi, b2, n, rfl, hB2, hbl, fun H3 hO3 hB3 => ?_⟩
          walk_at "go"
          exact ⟨_, b2, rfl, hO2.trans hO3, hB3, hl2⟩
    · intro σ H2 ⟨v3, bi, hσ, hO2, hB2, hl2⟩
      subst hσ
      rw [List.length_map, List.drop_length] at hl2
      cases hl2
      obtain ⟨⟨dx2, hI2⟩, hls2, hlt2, hlen2, hst2, _, hok2⟩ := id hB2
      have hkE : k < bE.st.length := by rw [← hlen2, hlen]; exact hk
      have hn2 : H2 pm = some (.lst ((b.mv k).map V.int)) := hO2.at hn1 hpmG
      have hd1 := List.nodup_cons.mp hnd
      have hd2 := List.nodup_cons.mp hd1.2
      have nr1 : r ≠ G.ls := fun z => hB.rne (by rw [z]; exact List.mem_cons_self)
      have nr2 : r ≠ G.lt := fun z => hB.rne (by rw [z]; exact List.mem_cons_of_mem _ List.mem_cons_self)
      have n12 : G.lt ≠ G.ls := fun z => hd1.1 (by rw [← z]; exact List.mem_cons_self)
      have npl : pm ≠ G.ls := fun z => by rw [z, hls] at hpm; cases hpm
      have npt : pm ≠ G.lt := fun z => by rw [z, hlt] at hpm; cases hpm
      have hside1 : (k : Int) < ((G.sa.map V.ref).length : Int) := by rw [List.length_map, hlen]; omega
      have hside2 : (k : Int) < (bE.tm.length : Int) := by rw [hok2.tl]; omega
      dsimp only
      walk_at "go"
      rename_i p0 H3 hp0 hs3 hn3 H4 hO4 hI4 H5 hO5 hI5
      rw [Int.toNat_natCast] at hI4 hI5
      have hsa2 : ∀ a ∈ G.sa, ∃ (i : Nat) (s : List (Option Int)), G.sa[i]? = some a ∧ H2 a = some (.lst (s.map oIV)) := fun a ha => by
        obtain ⟨i, hi⟩ := List.mem_iff_getElem?.mp ha
        exact ⟨i, _, hi, hst2 i a _ hi (List.getElem?_eq_getElem (hlen2 ▸ (List.getElem?_eq_some_iff.mp hi).1))⟩
      have p0sa : p0 ∉ G.sa := fun mm => by
        obtain ⟨_, _, _, e⟩ := hsa2 p0 mm
        rw [hp0] at e
        cases e
      have p0l : p0 ≠ G.ls := fun z => by rw [z, hls2] at hp0; cases hp0
      have p0t : p0 ≠ G.lt := fun z => by rw [z, hlt2] at hp0; cases hp0
      have sals : ∀ a ∈ G.sa, a ≠ G.ls ∧ a ≠ G.lt := fun a ha => ⟨fun z => hd1.1 (by rw [← z]; exact List.mem_cons_of_mem _ ha), fun z => hd2.1 (by rw [← z]; exact ha)⟩
      have up : ∀ {a : Addr} {o : HO}, a ≠ G.ls → a ≠ G.lt → H3 a = some o → H5 a = some o := fun {a o} n1 n2 e => hO5.at (hO4.at e (nin_of n1)) (nin_of n2)
      refine q ⟨G.ls, G.lt, G.sa.set k p0⟩ H5 (fun a o na e => ?_) (fun a ha => ?_) ⟨⟨dx2, up nr1 nr2 (hs3 _ _ hI2)⟩, hO5.at (by rw [hI4, List.map_set]) (nin_of (Ne.symm n12)), by rw [hI5, ← List.map_set]; rfl, ?_, fun i a s h1 h2 => ?_, ?_, BOk.wip hok2⟩
      · refine up (fun z => na (by rw [z]; exact List.mem_cons_self)) (fun z => na (by rw [z]; exact List.mem_cons_of_mem _ List.mem_cons_self)) (hs3 _ _ (hO2.at (hs1 _ _ e) fun mm => na (List.mem_cons_of_mem _ (List.mem_cons_of_mem _ mm))))
      · rcases List.mem_cons.mp ha with rfl | ha
        · exact .inl List.mem_cons_self
        rcases List.mem_cons.mp ha with rfl | ha
        · exact .inl (List.mem_cons_of_mem _ List.mem_cons_self)
        rcases List.mem_or_eq_of_mem_set ha with ha | rfl
        · exact .inl (List.mem_cons_of_mem _ (List.mem_cons_of_mem _ ha))
        · right
          cases e : H a with
          | none => rfl
          | some o =>
            rw [hO2.at (hs1 _ _ e) p0sa] at hp0
            cases hp0
      · show (G.sa.set k p0).length = (bE.st.set k []).length
        rw [List.length_set, List.length_set]
        exact hlen2
      · have h1 : (G.sa.set k p0)[i]? = some a := h1
        have h2 : (bE.st.set k [])[i]? = some s := h2
        by_cases hik : i = k
        · subst hik
          rw [List.getElem?_set_self (by rw [hlen]; exact hk)] at h1
          rw [List.getElem?_set_self hkE] at h2
          cases h1
          cases h2
          exact up p0l p0t hn3
        · rw [List.getElem?_set_ne (fun z => hik z.symm)] at h1 h2
          have hm := sals a (List.mem_of_getElem? h1)
          exact up hm.1 hm.2 (hs3 _ _ (hst2 i a s h1 h2))
      · refine List.nodup_cons.mpr ⟨fun mm => ?_, List.nodup_cons.mpr ⟨fun mm => ?_, nodup_set hd2.2 p0sa⟩⟩
        · rcases List.mem_cons.mp mm with z | mm
          · exact n12 z.symm
          rcases List.mem_or_eq_of_mem_set mm with mm | z
          · exact (sals _ mm).1 rfl
          · exact p0l z.symm
        · rcases List.mem_or_eq_of_mem_set mm with mm | z
          · exact (sals _ mm).2 rfl
          · exact p0t z.symm
/-! ### the least -/
theorem mBClr (T : Txt K mg) {n : Nat} (h : 3 ≤ n) : MO P w K mg base (L2.CX P w) n T.C_Bench "clear_out" (spBClr T) := ⟨⟨_, _, _, T.cl_Bench, T.m_Bench_clear_out, (ok_Bench_clear_out T).mono h, T.bd_Bench_clear_out⟩⟩
def ResAt (H : Hp) (v : V) (res : Int × List Int) : Prop := ∃ t l, v = .ref t ∧ H t = some (.tup [.int res.1, .ref l]) ∧ H l = some (.lst (res.2.map V.int))
theorem ResAt.mono {H H' : Hp} {v : V} {res : Int × List Int} (s : Same H H') (h : ResAt H v res) : ResAt H' v res := by
  obtain ⟨t, l, e, a, b⟩ := h
  exact ⟨t, l, e, s _ _ a, s _ _ b⟩
def BestAt (H : Hp) (v : V) : Option (Int × List Int) → Prop
  | none => v = .non
  | some r => ResAt H v r
theorem BestAt.mono {H H' : Hp} {v : V} {o : Option (Int × List Int)} (s : Same H H') (h : BestAt H v o) : BestAt H' v o := by
  cases o with
  | none => exact h
  | some r => exact ResAt.mono s h
theorem bestQ_len {g : Bn → List Int → Option (Int × List Int)} {b : Bn} {rest : List Int} {n : Nat} {res : Int × List Int} (hg : ∀ b' r, g b' rest = some r → r.2.length ≤ n) : ∀ (ks : List Nat) (o : Option (Int × List Int)), (∀ c, o = some c → c.2.length ≤ n + 1) → bestQ g b rest ks o = some res → res.2.length ≤ n + 1
  | [], o, ho, h => ho res h
  | k :: ks, o, ho, h => by
    rw [bestQ] at h
    cases hc : b.clr k with
    | none => rw [hc] at h; cases h
    | some bm =>
      rw [hc] at h
      have h : ((g bm.1 rest).bind fun r => bestQ g b rest ks (some (betQ o k bm.2 r))) = some res := h
      cases hr : g bm.1 rest with
      | none => rw [hr] at h; cases h
      | some r =>
        rw [hr] at h
        have h : bestQ g b rest ks (some (betQ o k bm.2 r)) = some res := h
        refine bestQ_len hg ks _ (fun c e => ?_) h
        have hrl := hg _ _ hr
        cases e
        unfold betQ
        cases o with
        | none =>
          show r.2.length + 1 ≤ n + 1
          omega
        | some c =>
          have hcl := ho c rfl
          dsimp only
          split
          · show r.2.length + 1 ≤ n + 1
            omega
          · exact hcl
theorem lstQ_len : ∀ {f : Nat} {b : Bn} {row : List Int} {res : Int × List Int}, lstQ f b row = some res → res.2.length ≤ f
  | 0, _, _, _, h => by cases h
  | f + 1, b, row, res, h => by
    rw [lstQ] at h
    cases hr : b.run row with
    | none => rw [hr] at h; cases h
    | some br =>
      rw [hr] at h
      have h : (if br.2 = [] then some ((0 : Int), ([] : List Int)) else bestQ (lstQ f) br.1 br.2 br.1.chs none) = some res := h
      split at h
      · cases h
        exact Nat.zero_le _
      · exact bestQ_len (fun b' r e => lstQ_len e) _ _ (fun c e => by cases e) h
def spLst (T : Txt K mg) (f : Nat) : Sp := fun vs H Q _ => ∃ (r q : Addr) (G : BG) (b : Bn) (row : List Int) (res : Int × List Int), vs = [.ref r, .ref q] ∧ BnAt T H r G b ∧ H q = some (.lst (row.map V.int)) ∧ q ∉ G.sa ∧ row.length ≤ 100 ∧ f ≤ 900 ∧ lstQ f b row = some res ∧
  ∀ t H', Off G.sa H H' → ResAt H' (.ref t) res → Q (.ref t) H'
theorem ok_least_from (T : Txt K mg) : ∀ f : Nat, FO P w K mg base (6 + f) T.a_least_from T.fd_least_from ["bench", "row"] (spLst T f) := by
  intro f
  have sc := sc_least_from
  have len : ∀ f vs H Q E, spLst (K := K) (mg := mg) T f vs H Q E → vs.length = (["bench", "row"] : List Str).length := fun f vs H Q E h => by
    obtain ⟨_, _, _, _, _, _, rfl, _⟩ := h
    rfl
  induction f with
  | zero =>
    refine T.F_least_from.okX (k := 5) sc (len 0) (fun cdv A outer s H vs Q E hr h => ?_)
    obtain ⟨_, _, _, _, _, _, _, _, _, _, _, _, he, _⟩ := h
    cases he
  | succ f ih =>
    refine T.F_least_from.okX (k := 6 + f) sc (len (f + 1)) (fun cdv A outer s H vs Q E hr h => ?_)
    obtain ⟨r, q, G, b, row, res, rfl, hB, hq, hqG, hrl, hf9, he, qq⟩ := h
    unfold lstQ at he
    cases hrun : b.run row with
    | none => rw [hrun] at he; cases he
    | some br =>
      obtain ⟨bE, rest⟩ := br
      rw [hrun] at he
      have he : (if rest = [] then some ((0 : Int), ([] : List Int)) else bestQ (lstQ f) bE rest bE.chs none) = some res := he
      refine ⟨_, (pss_cons (ps_set (i := 2) sc.nd rfl (by first | exact Or.inl rfl | exact Or.inr rfl) pe_int)
      (pss_cons (ps_while (passes_of rfl) (PW.pt (pw_and (pt_cmpR op_uLt (pv 2) (pe_callB (cr_ulen) (by rfl) T.b_len bt_len (pa_cons (pv 1) pa_nil)) (nomark _)) (pw_and1 (pt_truth (pe_methD0 (k := 2) (pv 0) (hr.mono (by omega)) (passAt (takes_of rfl rfl rfl rfl))) (by intro _; rfl))))) (pss_cons (ps_expr (pe_methD (k := 2) (pv 0) (hr.mono (by omega)) (passAt (takes_of rfl rfl rfl rfl)) (pa_cons (pe_ix ix_seq (pv 1) (pv 2) (fun _ _ => rfl)) pa_nil)))
      (pss_one (ps_aug (i := 2) sc.nd rfl (by first | exact Or.inl rfl | exact Or.inr rfl) pe_int ip_add))))
      (pss_cons (ps_if (pt_cmpR (op_uEq hr.units) (pv 2) (pe_callB (cr_ulen) (by rfl) T.b_len bt_len (pa_cons (pv 1) pa_nil)) (nomark _)) (pss_one (ps_ret (pe_tup (pa_cons pe_int (pa_cons (pe_lst pa_nil) pa_nil))))) pss_nil)
      (pss_cons (ps_set (i := 3) sc.nd rfl (by first | exact Or.inl rfl | exact Or.inr rfl) pe_non)
      (pss_cons (ps_for (passes_of rfl) rfl (pi_list (pe_methD0 (k := 1) (pv 0) (hr.mono (by omega)) (passAt (takes_of rfl rfl rfl rfl)))) (pg_name (i := 4) sc.nd rfl (by first | exact Or.inl rfl | exact Or.inr rfl)) (pss_cons (ps_set (i := 5) sc.nd rfl (by first | exact Or.inl rfl | exact Or.inr rfl) (pe_methD0 (k := 4) (pv 0) (hr.mono (by omega)) (passAt (takes_of rfl rfl rfl rfl))))
      (pss_cons (ps_set (i := 6) sc.nd rfl (by first | exact Or.inl rfl | exact Or.inr rfl) (pe_methD (k := 3) (pv 5) (hr.mono (by omega)) (passAt (takes_of rfl rfl rfl rfl)) (pa_cons (pv 4) pa_nil)))
      (pss_cons (ps_set (i := 7) sc.nd rfl (by first | exact Or.inl rfl | exact Or.inr rfl) (pe_callS (ih) (hr.mono (by omega)) (by rfl) T.g_least_from T.k_least_from T.bd_least_from (passAt (takes_of rfl rfl rfl rfl)) (pa_cons (pv 5) (pa_cons (pe_slice sl_u (pv 1) (po_some (pv 2)) po_none) pa_nil))))
      (pss_one (ps_if (PW.pt (pw_or (pt_cmpR op_uIs (pv 3) pe_non (nomark _)) (pw_or1 (pt_cmpR op_uLt (pe_op op_uAdd (pv 6) (pe_ix ix_seq (pv 7) pe_int (fun _ _ => rfl))) (pe_ix ix_seq (pv 3) pe_int (fun _ _ => rfl)) (nomark _))))) (pss_one (ps_set (i := 3) sc.nd rfl (by first | exact Or.inl rfl | exact Or.inr rfl) (pe_tup (pa_cons (pe_op op_uAdd (pv 6) (pe_ix ix_seq (pv 7) pe_int (fun _ _ => rfl))) (pa_cons (pe_op op_uAdd (pe_lst (pa_cons (pv 4) pa_nil)) (pe_ix ix_seq (pv 7) pe_int (fun _ _ => rfl))) pa_nil))))) pss_nil))))))
      (pss_one (ps_ret (pv 3)))))))), ?_⟩
      walk_at "begin"
      walk_at "go"
      refine x_join (fun σ' H1 => ∃ (i : Nat), i ≤ row.length ∧ σ' = [some (.ref r), some (.ref q), some (.int (i : Int)), none, none, none, none, none] ∧ Off G.sa H H1 ∧ BnAt T H1 r G bE ∧ rest = row.drop i) (fun R hR => ?_) ?_
      · refine x_whl (fun m σ H' => ∃ (i : Nat) (bi : Bn), i ≤ row.length ∧ m = row.length - i ∧ σ = [some (.ref r), some (.ref q), some (.int (i : Int)), none, none, none, none, none] ∧ Off G.sa H H' ∧ BnAt T H' r G bi ∧ bi.run (row.drop i) = some (bE, rest)) row.length ⟨0, b, Nat.zero_le _, rfl, rfl, Off.refl, hB, hrun⟩ ?_
        intro m σ H1 ⟨i, bi, hil, hm, hσ, hO1, hB1, hr1⟩
        subst hσ
        have hq1 := hO1.at hq hqG
        obtain ⟨dx1, hI1⟩ := id hB1.ins
        walk_at "go"
        refine x_iteD (fun hlt => ?_) (fun hlt => ?_)
        · have hil' : i < row.length := by omega
          have ed : row.drop i = row[i] :: row.drop (i + 1) := List.drop_eq_getElem_cons hil'
          rw [ed] at hr1
          walk_at "go"
          refine x_mtK hI1 (mBRdy T (Nat.le_refl _)) rfl ?_
          walk_at "go"
          refine ⟨r, G, bi, rfl, hB1, fun H2 hs2 => ?_⟩
          have hB2 := hB1.mono hs2
          have hq2 := hs2 _ _ hq1
          obtain ⟨dx2, hI2⟩ := id hB2.ins
          walk_at "go"
          cases hrd : bi.rdy with
          | true =>
            rw [Bn.run, if_pos hrd] at hr1
            cases hbl : bi.lay row[i] with
            | none => rw [hbl] at hr1; cases hr1
            | some b2 =>
              rw [hbl] at hr1
              have hr1 : b2.run (row.drop (i + 1)) = some (bE, rest) := hr1
              have hat : atI (row.map V.int) (i : Int) = some (.int row[i]) := atI_nat (by rw [List.getElem?_map, List.getElem?_eq_getElem hil']; rfl)
              unfold whK
              rw [if_pos rfl]
              refine ⟨fun σ' H' => ∃ (i' : Nat) (bi : Bn), i < i' ∧ i' ≤ row.length ∧ σ' = [some (.ref r), some (.ref q), some (.int (i' : Int)), none, none, none, none, none] ∧ Off G.sa H H' ∧ BnAt T H' r G bi ∧ bi.run (row.drop i') = some (bE, rest), fun σ' H' ⟨i', b3, h1, h2, h3, h4, h5, h6⟩ => ⟨row.length - i', by omega, i', b3, h2, rfl, h3, h4, h5, h6⟩, ?_⟩
              walk_at "go"
              refine x_mtK hI2 (mBLay T (Nat.le_refl _)) rfl ?_
              walk_at "go"
              refine ⟨r, G, bi, b2, row[i], rfl, hB2, hbl, fun H3 hO3 hB3 => ?_⟩
              walk_at "go"
              refine ⟨i + 1, b2, Nat.lt_succ_self i, hil', ?_, (hO1.trans (Off.of hs2)).trans hO3, hB3, hr1⟩
              rfl
          | false =>
            rw [Bn.run, if_neg (by rw [hrd]; decide)] at hr1
            cases hr1
            unfold whK
            rw [if_neg (by decide)]
            exact hR _ _ ⟨i, hil, rfl, hO1.trans (Off.of hs2), hB2, ed.symm⟩
        · have e : i = row.length := by omega
          subst e
          rw [List.drop_length] at hr1
          cases hr1
          unfold whK
          rw [if_neg (by decide)]
          exact hR _ _ ⟨row.length, hil, rfl, hO1, hB1, by rw [List.drop_length]⟩
      intro σ' H1 ⟨i, hil, hσ, hO1, hB1, hrest⟩
      subst hσ
      have hq1 := hO1.at hq hqG
      obtain ⟨dx1, hI1⟩ := id hB1.ins
      walk_at "go"
      walk_at "if"
      refine x_iteD (fun hlt => ?_) (fun hlt => ?_)
      · have e : rest = [] := by rw [hrest, List.drop_of_length_le (by omega)]
        rw [if_pos e] at he
        cases he
        walk_at "go"
        rename_i pl H2 hpl hs2 hn2 pt H3 hpt hs3 hn3
        exact qq pt H3 ((hO1.trans (Off.of hs2)).trans (Off.of hs3)) ⟨pt, pl, rfl, hn3, hs3 _ _ hn2⟩
      have hne : rest ≠ [] := by
        rw [hrest]
        intro z
        have := congrArg List.length z
        rw [List.length_drop] at this
        have : row.length - i = 0 := this
        omega
      rw [if_neg hne] at he
      walk_at "go"
      refine x_seq ?_
      walk_at "go"
      refine x_mtK hI1 (mBChs T (Nat.le_refl _)) rfl ?_
      walk_at "go"
      refine ⟨r, G, bE, rfl, hB1, fun pc H2 hs2 hpc hn2 => ?_⟩
      have hB2 := hB1.mono hs2
      have hq2 := hs2 _ _ hq1
      refine x_frL (SqL.of hn2) (fun j σ H' => ∃ (v3 : V) (v4 v5 v6 v7 : Option V) (o : Option (Int × List Int)), σ = [some (.ref r), some (.ref q), some (.int (i : Int)), some v3, v4, v5, v6, v7] ∧ Same H2 H' ∧ BestAt H' v3 o ∧ bestQ (lstQ f) bE rest (bE.chs.drop j) o = some res) ⟨.non, _, _, _, _, none, rfl, fun _ _ h => h, rfl, he⟩ (fun j σ H' _ ⟨_, _, _, _, _, _, _, s, _⟩ => SqL.of (s _ _ hn2)) ?_ ?_
      · intro j y σ H3 hy ⟨v3, v4, v5, v6, v7, o, hσ, hs3, hbest, hbq⟩
        subst hσ
        rw [List.getElem?_map, List.getElem?_map] at hy
        cases hg : bE.chs[j]? with
        | none => rw [hg] at hy; cases hy
        | some k =>
          rw [hg] at hy
          cases hy
          have hjl := (List.getElem?_eq_some_iff.mp hg).1
          have ed : bE.chs.drop j = k :: bE.chs.drop (j + 1) := by
            rw [List.drop_eq_getElem_cons hjl, (List.getElem?_eq_some_iff.mp hg).2]
          have hkl : k < bE.st.length := by
            have := List.mem_of_getElem? hg
            exact List.mem_range.mp (List.mem_filter.mp this).1
          rw [ed, bestQ] at hbq
          have hB3 := hB2.mono hs3
          have hq3 := hs3 _ _ hq2
          obtain ⟨dx3, hI3⟩ := id hB3.ins
          walk_at "go"
          refine x_mtK hI3 (mBCop T (Nat.le_refl _)) rfl ?_
          walk_at "go"
          refine ⟨r, G, bE, rfl, hB3, fun r' G' H4 hs4 hr' hG' hB4 => ?_⟩
          obtain ⟨dx4, hI4⟩ := id hB4.ins
          cases hcl : bE.clr k with
          | none => rw [hcl] at hbq; cases hbq
          | some bm =>
            obtain ⟨bC, mv⟩ := bm
            rw [hcl] at hbq
            have hbq : ((lstQ f bC rest).bind fun r => bestQ (lstQ f) bE rest (bE.chs.drop (j + 1)) (some (betQ o k mv r))) = some res := hbq
            walk_at "go"
            refine x_mtK hI4 (mBClr T (Nat.le_refl _)) rfl ?_
            walk_at "go"
            refine ⟨r', G', bE, bC, k, mv, rfl, hB4, hkl, hcl, fun G5 H5 hO5 hG5 hB5 => ?_⟩
            have s35 : Same H3 H5 := fun a o e => hO5.at (hs4 _ _ e) (fun mm => by rw [hG' a mm] at e; cases e)
            have hq5 := s35 _ _ hq3
            cases hls : lstQ f bC rest with
            | none => rw [hls] at hbq; cases hbq
            | some r1 =>
              rw [hls] at hbq
              have hbq : bestQ (lstQ f) bE rest (bE.chs.drop (j + 1)) (some (betQ o k mv r1)) = some res := hbq
              walk_at "go"
              rename_i pq H6 hpq hs6 hn6
              rw [cutV_from, ← List.map_drop, ← hrest] at hn6
              have hpqG : pq ∉ G5.sa := fun mm => by
                obtain ⟨x, hx⟩ := List.mem_iff_getElem?.mp mm
                have := hB5.st x pq _ hx (List.getElem?_eq_getElem (hB5.len ▸ (List.getElem?_eq_some_iff.mp hx).1))
                rw [hpq] at this
                cases this
              have hrl' : rest.length ≤ 100 := by rw [hrest, List.length_drop]; omega
              refine ⟨r', pq, G5, bC, rest, r1, rfl, hB5.mono hs6, hn6, hpqG, hrl', by omega, hls, fun t H7 hO7 hres => ?_⟩
              have s37 : Same H3 H7 := fun a o e => hO7.at (hs6 _ _ (s35 _ _ e)) (fun mm => by
                rcases hG5 a (List.mem_cons_of_mem _ (List.mem_cons_of_mem _ mm)) with h | h
                · rw [hG' a h] at e
                  cases e
                · rw [hs4 _ _ e] at h
                  cases h)
              obtain ⟨tr, lr, etr, htr, hlr⟩ := hres
              cases etr
              have hq7 := s37 _ _ hq3
              have hbest7 := hbest.mono s37
              have hat0 : atI [V.int r1.1, V.ref lr] 0 = some (.int r1.1) := rfl
              have hat1 : atI [V.int r1.1, V.ref lr] 1 = some (.ref lr) := rfl
              have hsz1 : ([V.int (k : Int)].length + (r1.2.map V.int).length) ≤ sizeLine := by
                have := lstQ_len hls
                rw [List.length_map]
                exact Nat.le_of_lt (small64 (by show 1 + r1.2.length ≤ 1000; omega))
              have fin : ∀ (tn ln : Addr) (H' : Hp), Same H7 H' → H' tn = some (.tup [.int (mv + r1.1), .ref ln]) → H' ln = some (.lst ([V.int (k : Int)] ++ r1.2.map V.int)) → betQ o k mv r1 = (mv + r1.1, (k : Int) :: r1.2) → BestAt H' (.ref tn) (some (betQ o k mv r1)) := fun tn ln H' s h1 h2 e => by
                rw [e]
                exact ⟨tn, ln, rfl, h1, by rw [h2]; rfl⟩
              have kp : ∀ (H' : Hp), Same H7 H' → Same H2 H' := fun H' s => hs3.trans (s37.trans s)
              clear hs3 s37 hs4 hO5 hs6 hO7 s35 hs2 hO1 hpq hpqG hn6 hB5 hB4 hB3 hB2 hB1 hq1 hq2 hq3 hq5 hI3 hI4 hI1 hn2 hbest hB hq hr' hG' hG5
              cases o with
              | none =>
                have e3 : v3 = .non := hbest7
                subst e3
                walk_at "go"
                rw [if_pos (by decide)]
                walk_at "go"
                rename_i l1 HA hl1 hsA hnA
                refine x_ixT (SqT.of (hsA _ _ htr)) hat1 ?_
                have hlrA := hsA _ _ hlr
                walk_at "go"
                rename_i l2 HB hl2 hsB hnB t2 HC ht2 hsC hnC
                have s7C := (hsA.trans hsB).trans hsC
                exact ⟨_, _, _, _, _, _, rfl, kp HC s7C, fin _ _ HC s7C hnC (hsC _ _ hnB) rfl, hbq⟩
              | some c =>
                obtain ⟨tc, lc, ec, htc, hlc⟩ := hbest7
                subst ec
                have hat2 : atI [V.int c.1, V.ref lc] 0 = some (.int c.1) := rfl
                walk_at "go"
                rw [if_neg (by rw [show decide (V.ref tc = V.non) = false from decide_eq_false fun z => by cases z]; decide)]
                walk_at "go"
                refine x_iteD (fun hlt2 => ?_) (fun hlt2 => ?_)
                · walk_at "go"
                  rename_i l1 HA hl1 hsA hnA
                  refine x_ixT (SqT.of (hsA _ _ htr)) hat1 ?_
                  have hlrA := hsA _ _ hlr
                  walk_at "go"
                  rename_i l2 HB hl2 hsB hnB t2 HC ht2 hsC hnC
                  have s7C := (hsA.trans hsB).trans hsC
                  exact ⟨_, _, _, _, _, _, rfl, kp HC s7C, fin _ _ HC s7C hnC (hsC _ _ hnB) (if_pos hlt2), hbq⟩
                · walk_at "go"
                  have e : betQ (some c) k mv r1 = c := if_neg hlt2
                  rw [e] at hbq
                  exact ⟨_, _, _, _, _, some c, rfl, kp H7 (fun _ _ h => h), ⟨tc, lc, rfl, htc, hlc⟩, hbq⟩
      · intro σ H3 ⟨v3, v4, v5, v6, v7, o, hσ, hs3, hbest, hbq⟩
        subst hσ
        rw [List.length_map, List.length_map, List.drop_length] at hbq
        have hbq : o = some res := hbq
        subst hbq
        obtain ⟨t, l, rfl, h1, h2⟩ := hbest
        dsimp only
        walk_at "go"
        exact qq t H3 ((hO1.trans (Off.of hs2)).trans (Off.of hs3)) ⟨t, l, rfl, h1, h2⟩
/-! ### a race -/
def spNSh (K : PySem.W.Frag) : Sp := fun vs H Q _ => ∃ (q : Addr) (row s : List Int) (m : Int), vs = [.ref q, .int m] ∧ SqL K H q (row.map V.int) ∧ row.length < 64 ∧ (∀ x ∈ row, 0 ≤ x ∧ x ≤ 63) ∧ (∀ x ∈ row, x ∈ s) ∧ (s.length : Int) ≤ m ∧ Q .non H
theorem ok_need_sheets (T : Txt K mg) : FO P w K mg base 3 T.a_need_sheets T.fd_need_sheets ["row", "many"] (spNSh K) := by
  have sc := sc_need_sheets
  refine T.F_need_sheets.okX sc (fun vs H Q E h => ?_) (fun cdv A outer s H vs Q E hr h => ?_)
  · obtain ⟨_, _, _, _, rfl, _⟩ := h
    rfl
  obtain ⟨q, row, sl, m, rfl, hq, hl, hb, hs, hm, qq⟩ := h
  have hul := unl_len hs
  refine ⟨_, (pss_cons (ps_for (passes_of rfl) rfl (pi_list (pv 0)) (pg_name (i := 2) sc.nd rfl (by first | exact Or.inl rfl | exact Or.inr rfl)) (pss_one (ps_if (pt_not (pt_truth (pe_callS (ok_is_within T) (hr.mono (by decide)) (by rfl) T.g_is_within T.k_is_within T.bd_is_within (passAt (takes_of rfl rfl rfl rfl)) (pa_cons (pv 2) (pa_cons pe_int (pa_cons pe_int pa_nil)))) (by intro _; rfl))) (pss_one (ps_raiseK rfl (takes_of rfl rfl rfl rfl) (pmk_ownK T.xc_NoRace T.g_NoRace rfl))) pss_nil)))
      (pss_one (ps_if (pt_cmpR op_gt (pe_lenSet (by rfl) (by rfl) T.b_len (by rfl) T.b_set (pv 0)) (pv 1) (nomark _)) (pss_one (ps_raiseK rfl (takes_of rfl rfl rfl rfl) (pmk_ownK T.xc_NoRace T.g_NoRace rfl))) pss_nil))), ?_⟩
  walk_at "begin"
  walk_at "go"
  refine x_seq ?_
  walk_at "go"
  refine x_frL hq (fun i σ H' => ∃ (v2 : Option V), σ = [some (.ref q), some (.int m), v2] ∧ H' = H) ⟨_, rfl, rfl⟩ (fun i σ H' _ ⟨_, _, e⟩ => by rw [e]; exact hq) ?_ ?_
  · intro i x σ H' hx ⟨v2, hσ, eH⟩
    subst hσ eH
    rw [List.getElem?_map] at hx
    cases hg : row[i]? with
    | none => rw [hg] at hx; cases hx
    | some n =>
      rw [hg] at hx
      cases hx
      have hn := hb n (List.mem_of_getElem? hg)
      walk_at "go"
      rw [decide_eq_true hn]
      walk_at "go"
      exact ⟨_, rfl, rfl⟩
  · intro σ H' ⟨v2, hσ, eH⟩
    subst hσ eH
    dsimp only
    walk_at "go"
    refine ⟨q, row, rfl, hq, hl, ?_⟩
    walk_at "go"
    refine x_iteD (fun h => absurd h (by omega)) (fun _ => ?_)
    walk_at "go"
    exact qq
def spNRace (K : PySem.W.Frag) : Sp := fun vs H Q _ => ∃ (q : Addr) (row s : List Int) (n p more : Int), vs = [.int n, .int p, .ref q, .int more] ∧ SqL K H q (row.map V.int) ∧ (2 ≤ n ∧ n ≤ 4) ∧ (1 ≤ p ∧ p ≤ 3) ∧ 3 ≤ (n - 1) * p ∧ (row.length : Int) + more ≤ (n - 1) * p + 6 ∧ 0 ≤ more ∧ (∀ x ∈ row, 0 ≤ x ∧ x ≤ 63) ∧ (∀ x ∈ row, x ∈ s) ∧ (s.length : Int) ≤ (n - 1) * p - 2 ∧ Q .non H
theorem ok_need_race (T : Txt K mg) : FO P w K mg base 4 T.a_need_race T.fd_need_race ["blocks", "pages", "row", "more"] (spNRace K) := by
  have sc := sc_need_race
  refine T.F_need_race.okX sc (fun vs H Q E h => ?_) (fun cdv A outer s H vs Q E hr h => ?_)
  · obtain ⟨_, _, _, _, _, _, rfl, _⟩ := h
    rfl
  obtain ⟨q, row, sl, n, p, more, rfl, hq, hn, hp, hm3, hlen, hmo, hb, hs, hsl, qq⟩ := h
  have hle : (n - 1) * p ≤ 3 * 3 := Int.mul_le_mul (by omega) hp.2 (by omega) (by decide)
  have hl64 : row.length < 64 := by omega
  refine ⟨_, (pss_cons (ps_if (PW.pt (pw_or (pt_not (pt_truth (pe_callS (ok_is_within T) (hr.mono (by decide)) (by rfl) T.g_is_within T.k_is_within T.bd_is_within (passAt (takes_of rfl rfl rfl rfl)) (pa_cons (pv 0) (pa_cons pe_int (pa_cons pe_int pa_nil)))) (by intro _; rfl))) (pw_or1 (pt_not (pt_truth (pe_callS (ok_is_within T) (hr.mono (by decide)) (by rfl) T.g_is_within T.k_is_within T.bd_is_within (passAt (takes_of rfl rfl rfl rfl)) (pa_cons (pv 1) (pa_cons pe_int (pa_cons pe_int pa_nil)))) (by intro _; rfl)))))) (pss_one (ps_raiseK rfl (takes_of rfl rfl rfl rfl) (pmk_ownK T.xc_NoRace T.g_NoRace rfl))) pss_nil)
      (pss_cons (ps_set (i := 4) sc.nd rfl (by first | exact Or.inl rfl | exact Or.inr rfl) (pe_op op_uMul (pe_op op_sub (pv 0) pe_int) (pv 1)))
      (pss_cons (ps_if (PW.pt (pw_or (pt_cmpR op_uLt (pv 4) pe_int (nomark _)) (pw_or1 (pt_cmpR op_gt (pe_op op_uAdd (pe_callB (cr_ulen) (by rfl) T.b_len bt_len (pa_cons (pv 2) pa_nil)) (pv 3)) (pe_op op_uAdd (pv 4) pe_int) (nomark _))))) (pss_one (ps_raiseK rfl (takes_of rfl rfl rfl rfl) (pmk_ownK T.xc_NoRace T.g_NoRace rfl))) pss_nil)
      (pss_one (ps_expr (pe_callS (ok_need_sheets T) (hr.mono (by decide)) (by rfl) T.g_need_sheets T.k_need_sheets T.bd_need_sheets (passAt (takes_of rfl rfl rfl rfl)) (pa_cons (pv 2) (pa_cons (pe_op op_sub (pv 4) pe_int) pa_nil)))))))), ?_⟩
  walk_at "begin"
  walk_at "if"
  rw [decide_eq_true hn]
  walk_at "go"
  rw [decide_eq_true hp]
  walk_at "go"
  walk_at "if"
  refine x_iteD (fun h => absurd h (by omega)) (fun _ => ?_)
  walk_at "go"
  refine x_iteD (fun h => absurd h (by omega)) (fun _ => ?_)
  walk_at "go"
  refine ⟨q, row, sl, _, rfl, hq, hl64, hb, hs, hsl, ?_⟩
  walk_at "go"
  exact qq
def spLM (K : PySem.W.Frag) : Sp := fun vs H Q _ => ∃ (q : Addr) (row s : List Int) (n : Nat) (p : Int) (res : Int × List Int), vs = [.int (n : Int), .int p, .ref q] ∧ H q = some (.lst (row.map V.int)) ∧ (2 ≤ n ∧ n ≤ 4) ∧ (1 ≤ p ∧ p ≤ 3) ∧ 3 ≤ ((n : Int) - 1) * p ∧ (row.length : Int) ≤ ((n : Int) - 1) * p + 6 ∧ (∀ x ∈ row, 0 ≤ x ∧ x ≤ 63) ∧ (∀ x ∈ row, x ∈ s) ∧ (s.length : Int) ≤ ((n : Int) - 1) * p - 2 ∧
  lstQ 20 (newB n p) row = some res ∧ ∀ t H', Same H H' → ResAt H' (.ref t) res → Q (.ref t) H'
theorem ok_least_moves (T : Txt K mg) : FO P w K mg base 30 T.a_least_moves T.fd_least_moves ["blocks", "pages", "row"] (spLM K) := by
  have sc := sc_least_moves
  refine T.F_least_moves.okX sc (fun vs H Q E h => ?_) (fun cdv A outer s H vs Q E hr h => ?_)
  · obtain ⟨_, _, _, _, _, _, rfl, _⟩ := h
    rfl
  obtain ⟨q, row, sl, n, p, res, rfl, hq, hn, hp, hm3, hlen, hb, hs, hsl, he, qq⟩ := h
  have hle : ((n : Int) - 1) * p ≤ 3 * 3 := Int.mul_le_mul (by omega) hp.2 (by omega) (by decide)
  refine ⟨_, (pss_cons (ps_expr (pe_callS (ok_need_race T) (hr.mono (by decide)) (by rfl) T.g_need_race T.k_need_race T.bd_need_race (passAt (takes_of rfl rfl rfl rfl)) (pa_cons (pv 0) (pa_cons (pv 1) (pa_cons (pv 2) (pa_cons pe_int pa_nil))))))
      (pss_one (ps_ret (pe_callS (ok_least_from T 20) (hr.mono (by decide)) (by rfl) T.g_least_from T.k_least_from T.bd_least_from (passAt (takes_of rfl rfl rfl rfl)) (pa_cons (pe_mkS T.mk_Bench (ok_Bench_init T) (hr.mono (by decide)) (by rfl) T.g_Bench T.bd_Bench_init .nil (passAt (takes_of rfl rfl rfl rfl)) (pa_cons (pv 0) (pa_cons (pv 1) pa_nil))) (pa_cons (pv 2) pa_nil)))))), ?_⟩
  walk_at "begin"
  walk_at "go"
  refine ⟨q, row, sl, (n : Int), p, 0, rfl, SqL.of hq, ⟨by omega, by omega⟩, hp, hm3, by omega, Int.le_refl _, hb, hs, hsl, ?_⟩
  walk_at "go"
  rename_i r dx H1 hr1 hdx hne hs1 hn1 hd1
  refine ⟨r, dx, n, p, rfl, hn1, hn.2, hp, fun G H2 hG hO2 hB2 => ⟨rfl, ?_⟩⟩
  have s02 : Same H H2 := Off.same1 hs1 hO2 hr1
  have hq2 := s02 _ _ hq
  have hqG : q ∉ G.sa := fun m => by
    have := hG q (List.mem_cons_of_mem _ (List.mem_cons_of_mem _ m))
    rw [hs1 _ _ hq] at this
    cases this
  walk_at "go"
  refine ⟨r, q, G, _, row, res, rfl, hB2, hq2, hqG, by omega, by decide, he, fun t H3 hO3 hres => ?_⟩
  exact qq t H3 (fun a o e => hO3.at (s02 _ _ e) (fun m => by
    have := hG a (List.mem_cons_of_mem _ (List.mem_cons_of_mem _ m))
    rw [hs1 _ _ e] at this
    cases this)) hres
/-! ### `<` of lists of whole numbers -/
section
open PySem PySem.Spec PyProof.Rows L2 Kit
/-- one row ahead of another in the order of lists -/
def lexI : List Int → List Int → Bool
  | [], [] => false
  | [], _ :: _ => true
  | _ :: _, [] => false
  | x :: xs, y :: ys => if x = y then lexI xs ys else decide (x < y)
theorem lex_toks : ∀ (xs ys : List Int), PyProof.Rows.lexLt itemOrd (PySem.W.keyToksAll (xs.map PyData.int)) (PySem.W.keyToksAll (ys.map PyData.int)) = lexI xs ys
  | [], [] => rfl
  | [], _ :: _ => rfl
  | _ :: _, [] => rfl
  | x :: xs, y :: ys => by
    rw [List.map_cons, List.map_cons]
    show _ = if x = y then lexI xs ys else decide (x < y)
    by_cases h : x = y
    · subst h
      rw [if_pos rfl, PySem.W.dataLt_all_yes rfl (PySem.W.eqv_refl_alike _ rfl)]
      exact lex_toks xs ys
    · rw [if_neg h, PySem.W.dataLt_all_no rfl (by
        show PyData.eqv (.int x) (.int y) = false
        cases e : PyData.eqv (.int x) (.int y) with
        | false => rfl
        | true => exact absurd (by simpa [PyData.eqv] using e) h), PySem.W.dataLt_int]
def intsD (ns : List Int) : PyData := .list (ns.map PyData.int)
theorem lt_intsD (ns ms : List Int) : PySem.W.dataLt (intsD ns) (intsD ms) = lexI ns ms := by
  unfold intsD
  rw [PySem.W.dataLt_list, lex_toks]
theorem alike_ints : ∀ (ns ms : List Int), PySem.W.alikeAll (ns.map PyData.int) (ms.map PyData.int) = true
  | [], _ => by cases ‹List Int› <;> rfl
  | _ :: _, [] => rfl
  | x :: xs, y :: ys => by
    show (PySem.W.alike (.int x) (.int y) && PySem.W.alikeAll (xs.map PyData.int) (ys.map PyData.int)) = true
    rw [alike_ints xs ys]
    rfl
theorem depth_ints (ns : List Int) : (intsD ns).depth ≤ 2 := by
  have h : ∀ l : List Int, PyData.depthAll (l.map PyData.int) ≤ 1 := fun l => by
    induction l with
    | nil => exact Nat.zero_le _
    | cons x l ih =>
      rw [List.map_cons]
      show max (PyData.depth (.int x)) (PyData.depthAll (l.map PyData.int)) ≤ 1
      exact Nat.max_le.mpr ⟨(show PyData.depth (.int x) ≤ 1 by unfold PyData.depth; omega), ih⟩
  have := h ns
  show PyData.depthAll (ns.map PyData.int) + 1 ≤ 2
  omega
theorem lexI_ref : ∀ xs : List Int, lexI xs xs = false
  | [] => rfl
  | x :: xs => by
    show (if x = x then lexI xs xs else decide (x < x)) = false
    rw [if_pos rfl]
    exact lexI_ref xs
/-- not ahead, and not ahead: not ahead -/
theorem lexI_tr : ∀ {xs ys zs : List Int}, lexI ys xs = false → lexI zs ys = false → lexI zs xs = false
  | [], _, [], _, _ => rfl
  | [], ys, z :: zs, _, _ => rfl
  | x :: xs, [], zs, h, _ => by cases h
  | x :: xs, y :: ys, [], _, h => by cases h
  | x :: xs, y :: ys, z :: zs, h1, h2 => by
    have h1 : (if y = x then lexI ys xs else decide (y < x)) = false := h1
    have h2 : (if z = y then lexI zs ys else decide (z < y)) = false := h2
    show (if z = x then lexI zs xs else decide (z < x)) = false
    by_cases a : y = x
    · subst a
      rw [if_pos rfl] at h1
      by_cases b : z = y
      · rw [if_pos b] at h2 ⊢
        exact lexI_tr h1 h2
      · rw [if_neg b] at h2 ⊢
        exact h2
    · rw [if_neg a] at h1
      have h1 := of_decide_eq_false h1
      by_cases b : z = y
      · rw [if_neg (by omega)]
        exact decide_eq_false (by omega)
      · rw [if_neg b] at h2
        have h2 := of_decide_eq_false h2
        rw [if_neg (by omega)]
        exact decide_eq_false (by omega)
end
/-! ### `>` of lists, lists of lists of whole numbers -/
section
open PySem PySem.Spec PyProof.Rows L2 Kit
variable {K : PySem.W.Frag} {H : Hp} {Q : VK} {a b : Addr}
theorem map_int_inj : ∀ {xs ys : List Int}, xs.map V.int = ys.map V.int → xs = ys
  | [], [], _ => rfl
  | [], _ :: _, h => by cases h
  | _ :: _, [], h => by cases h
  | x :: xs, y :: ys, h => by
    rw [List.map_cons, List.map_cons] at h
    obtain ⟨h1, h2⟩ := List.cons.inj h
    rw [V.int.inj h1, map_int_inj h2]
theorem eqv_ints : ∀ ns ms : List Int, PyData.eqvAll (ns.map PyData.int) (ms.map PyData.int) = decide (ns = ms)
  | [], [] => by simp [PyData.eqvAll]
  | [], _ :: _ => by simp [PyData.eqvAll]
  | _ :: _, [] => by simp [PyData.eqvAll]
  | x :: xs, y :: ys => by
    rw [List.map_cons, List.map_cons, PyData.eqvAll, eqv_ints xs ys, PyData.eqv]
    by_cases h : x = y <;> by_cases h2 : xs = ys <;> simp [h, h2]
theorem intsD_sh (ns : List Int) : Sh 9 (intsD ns) := Sh.list (k := 8) fun d hd => by
  obtain ⟨n, _, rfl⟩ := List.mem_map.mp hd
  exact Sh.int
theorem x_eqL {ns ms : List Int} (ha : SqL K H a (ns.map V.int)) (hb : SqL K H b (ms.map V.int)) (q : Q (.bl (decide (ns = ms))) H) : uEq K (.ref a) (.ref b) H Q := by
  refine x_eqD (d := intsD ns) (e := intsD ms) (.lst ha dpInts) (.lst hb dpInts) (intsD_sh ns) (intsD_sh ms) ?_
  have e : PyData.eqv (intsD ns) (intsD ms) = decide (ns = ms) := by
    unfold intsD
    rw [PyData.eqv, eqv_ints]
  rw [e]
  exact q
/-- rows of numbers, off the places S -/
def LLr (S : List Addr) (H : Hp) (xs : List V) (rows : List (List Int)) : Prop := xs.length = rows.length ∧ ∀ (i : Nat) x row, xs[i]? = some x → rows[i]? = some row → ∃ t, x = .ref t ∧ t ∉ S ∧ H t = some (.lst (row.map V.int))
theorem LLr.nil {S : List Addr} : LLr S H [] [] := ⟨rfl, fun i x row h _ => by simp at h⟩
theorem LLr.off {S : List Addr} {H' : Hp} {xs : List V} {rows : List (List Int)} (s : Off S H H') (h : LLr S H xs rows) : LLr S H' xs rows :=
  ⟨h.1, fun i x row h1 h2 => let ⟨t, e, n, ht⟩ := h.2 i x row h1 h2; ⟨t, e, n, s _ _ n ht⟩⟩
theorem LLr.sub {S S' : List Addr} {xs : List V} {rows : List (List Int)} (k : ∀ b ∈ S', b ∈ S) (h : LLr S H xs rows) : LLr S' H xs rows :=
  ⟨h.1, fun i x row h1 h2 => let ⟨t, e, n, ht⟩ := h.2 i x row h1 h2; ⟨t, e, fun m => n (k _ m), ht⟩⟩
theorem LLr.snoc {S : List Addr} {xs : List V} {rows : List (List Int)} {t : Addr} {row : List Int} (h : LLr S H xs rows) (n : t ∉ S) (ht : H t = some (.lst (row.map V.int))) : LLr S H (xs ++ [.ref t]) (rows ++ [row]) := by
  refine ⟨by simp [h.1], fun i x r h1 h2 => ?_⟩
  by_cases hi : i < xs.length
  · rw [List.getElem?_append_left hi] at h1
    rw [List.getElem?_append_left (h.1 ▸ hi)] at h2
    exact h.2 i x r h1 h2
  · have e : i = xs.length := by
      have := (List.getElem?_eq_some_iff.mp h1).1
      simp at this
      omega
    subst e
    rw [List.getElem?_append_right (Nat.le_refl _)] at h1
    rw [h.1, List.getElem?_append_right (Nat.le_refl _)] at h2
    simp at h1 h2
    subst h1 h2
    exact ⟨t, rfl, n, ht⟩
theorem LLr.get {S : List Addr} {xs : List V} {rows : List (List Int)} (h : LLr S H xs rows) {i : Nat} {x : V} (hi : xs[i]? = some x) : ∃ t row, rows[i]? = some row ∧ x = .ref t ∧ H t = some (.lst (row.map V.int)) := by
  have hl := (List.getElem?_eq_some_iff.mp hi).1
  have hl2 : i < rows.length := h.1 ▸ hl
  obtain ⟨t, e, _, ht⟩ := h.2 i x _ hi (List.getElem?_eq_getElem hl2)
  exact ⟨t, _, List.getElem?_eq_getElem hl2, e, ht⟩
open Classical in
noncomputable def kOf (H : Hp) (x : V) : List Int := if h : ∃ row : List Int, ∃ t, x = .ref t ∧ H t = some (.lst (row.map V.int)) then h.choose else []
theorem kOf_eq {t : Addr} {row : List Int} (h : H t = some (.lst (row.map V.int))) : kOf H (.ref t) = row := by
  have hx : ∃ row : List Int, ∃ t2, V.ref t = .ref t2 ∧ H t2 = some (.lst (row.map V.int)) := ⟨row, t, rfl, h⟩
  unfold kOf
  rw [dif_pos hx]
  obtain ⟨t2, e, h2⟩ := hx.choose_spec
  cases e
  rw [h] at h2
  exact (map_int_inj (HO.lst.inj (Option.some.inj h2))).symm
theorem LLr.row {S : List Addr} {xs : List V} {rows : List (List Int)} (h : LLr S H xs rows) {row : List Int} (hr : row ∈ rows) : ∃ x ∈ xs, kOf H x = row := by
  obtain ⟨i, hi⟩ := List.mem_iff_getElem?.mp hr
  have hl := (List.getElem?_eq_some_iff.mp hi).1
  have hl2 : i < xs.length := h.1 ▸ hl
  obtain ⟨t, e, _, ht⟩ := h.2 i _ _ (List.getElem?_eq_getElem hl2) hi
  exact ⟨xs[i], List.getElem_mem hl2, by rw [e, kOf_eq ht]⟩
end
/-! ### a law's own model of a race -/
section
variable {σ : L2.St} {H : Hp} {D : Ends} {td ty tv : TE} {a : Addr} {rd : V → V → Hp → VK → Prop} {z : Str} {v x : V} {kvs kvs' : List (L2.Key × V)}
def dpA (a : Addr) (z : Str) (v : V) (D : Ends) (σ : L2.St) (H : Hp) : Prop := ∃ H5, DPut H a (.str z) v H5 ∧ D.nx σ H5
theorem x_dpA (h : H a = some (.dK kvs)) (hk : putK kvs (.inr z) v = kvs') (q : ∀ H1, Off [a] H H1 → H1 a = some (.dK kvs') → D.nx σ H1) (hl : kvs.length ≤ 1000) : dpA a z v D σ H :=
  ⟨_, DPut.k (k := .inr z) h (Nat.lt_of_le_of_lt hl (by decide)), by rw [hk]; exact q _ (Off.upd (List.mem_singleton.mpr rfl)) upd_same⟩
def daK (x : V) (tv : TE) (rd : V → V → Hp → VK → Prop) (D : Ends) (σ : L2.St) : V → Hp → Prop := fun y H2 => ∃ a v, x = .ref a ∧ DGet H2 a y (some v) ∧ tv σ H2 fun y2 H3 => rd v y2 H3 fun z H4 => ∃ H5, DPut H4 a y z H5 ∧ D.nx σ H5
theorem x_daug (h : td σ H fun x H1 => ty σ H1 (daK x tv rd D σ)) : sDAug td ty tv rd D σ H := h
theorem x_seqDA {u : TS} (h : sDAug td ty tv rd { D with nx := u D } σ H) : tSeq (sDAug td ty tv rd) u D σ H := h
theorem x_daS (h : H a = some (.dK kvs)) (hv : valV kvs (.inr z) = some v) (q : tv σ H fun y2 H3 => rd v y2 H3 fun z' H4 => dpA a z z' D σ H4) : daK (.ref a) tv rd D σ (.str z) H := ⟨a, v, rfl, by rw [← hv]; exact DGet.k (k := .inr z) h, q⟩
end
local macro_rules | `(tactic| walk_at "u") => `(tactic| first
  | with_reducible refine x_seqDA ?_
  | with_reducible refine x_daug ?_
  | ((with_reducible refine' x_daS ?ho rfl ?_); (case ho => walk_at "hp")))
structure Ls where
  p : Int
  hd : List (List (Int × Int))
  tm : List Int
  nw : List (Int × Int)
  sp : Int
def oneE (nw : List (Int × Int)) (e : Int × Int) : Option Int := if getI nw e.1 = some e.2 then some e.1 else none
def Ls.toB (L : Ls) : Bn := ⟨L.p, L.hd.map fun s => s.map (oneE L.nw), L.tm⟩
structure LsOk (L : Ls) : Prop where
  bok : BOk L.toB
  ub : ∀ s ∈ L.hd, ∀ e ∈ s, e.2 ≤ L.sp
  kb : ∀ s ∈ L.hd, ∀ e ∈ s, ∃ t, getI L.nw e.1 = some t
  nb : ∀ x t, getI L.nw x = some t → t ≤ L.sp
  nd : ((L.hd.flatten).map (·.2)).Nodup
  nl : (L.nw.length : Int) ≤ L.sp
structure LG where
  lh : Addr
  lt : Addr
  dn : Addr
  sa : List Addr
def LG.all (G : LG) : List Addr := G.lh :: G.lt :: G.dn :: G.sa
def lawK (L : Ls) (G : LG) : List (L2.Key × V) := [(.inr "pages", .int L.p), (.inr "held", .ref G.lh), (.inr "times", .ref G.lt), (.inr "newest", .ref G.dn), (.inr "stamp", .int L.sp)]
structure LsAt (H : Hp) (d : Addr) (G : LG) (L : Ls) : Prop where
  d0 : H d = some (.dK (lawK L G))
  lh : H G.lh = some (.lst (G.sa.map V.ref))
  lt : H G.lt = some (.lst (L.tm.map V.int))
  dn : H G.dn = some (.dK (kvI L.nw))
  len : G.sa.length = L.hd.length
  st : ∀ (i : Nat) a s, G.sa[i]? = some a → L.hd[i]? = some s → ∃ ys, H a = some (.lst ys) ∧ PairL H ys s
  nd : (d :: G.all).Nodup
  ok : LsOk L
theorem LsAt.off {H H' : Hp} {d : Addr} {G : LG} {L : Ls} {S : List Addr} (h : LsAt H d G L) (s : Off S H H') (t : TupS H H') (hn : ∀ a ∈ S, a ∉ d :: G.all) : LsAt H' d G L := by
  have k : ∀ {a : Addr} {o : HO}, a ∈ d :: G.all → H a = some o → H' a = some o := fun {a o} m e => s a o (fun z => hn a z m) e
  refine ⟨k List.mem_cons_self h.d0, k (by simp [LG.all]) h.lh, k (by simp [LG.all]) h.lt, k (by simp [LG.all]) h.dn, h.len, fun i a s h1 h2 => ?_, h.nd, h.ok⟩
  obtain ⟨ys, e, hp⟩ := h.st i a s h1 h2
  exact ⟨ys, k (List.mem_cons_of_mem _ (List.mem_cons_of_mem _ (List.mem_cons_of_mem _ (List.mem_cons_of_mem _ (List.mem_of_getElem? h1))))) e, hp.mono t⟩
theorem LsAt.mono {H H' : Hp} {d : Addr} {G : LG} {L : Ls} (h : LsAt H d G L) (s : Same H H') : LsAt H' d G L := h.off (S := []) (Off.of s) (TupS.of s) fun a ha => by cases ha
theorem Ls.len (L : Ls) : L.toB.st.length = L.hd.length := List.length_map _
theorem Ls.getD (L : Ls) (k : Nat) : L.toB.st.getD k [] = (L.hd.getD k []).map (oneE L.nw) := by
  show (L.hd.map _).getD k [] = _
  rw [List.getD_eq_getElem?_getD, List.getD_eq_getElem?_getD, List.getElem?_map]
  cases L.hd[k]? with
  | none => rfl
  | some s => rfl
theorem Ls.lenK (L : Ls) (k : Nat) : (L.toB.st.getD k []).length = (L.hd.getD k []).length := by rw [Ls.getD, List.length_map]
theorem LsAt.get {H : Hp} {d : Addr} {G : LG} {L : Ls} (h : LsAt H d G L) {k : Nat} (hk : k < L.hd.length) : ∃ a ys, G.sa[k]? = some a ∧ a ∈ G.sa ∧ H a = some (.lst ys) ∧ PairL H ys (L.hd.getD k []) := by
  have hl : k < G.sa.length := h.len ▸ hk
  obtain ⟨ys, e, hp⟩ := h.st k _ _ (List.getElem?_eq_getElem hl) (List.getElem?_eq_getElem hk)
  refine ⟨G.sa[k], ys, List.getElem?_eq_getElem hl, List.getElem_mem hl, e, ?_⟩
  rw [List.getD_eq_getElem?_getD, List.getElem?_eq_getElem hk]
  exact hp
theorem x_eqNilP {H : Hp} {Q : VK} {a e : Addr} {ys : List V} {s : List (Int × Int)} (h : PairL H ys s) (h1 : H a = some (.lst ys)) (h2 : H e = some (.lst [])) (q : Q (.bl s.isEmpty) H) : uEq K (.ref a) (.ref e) H Q := by
  refine x_eqD (h.dp h1) (.lst (SqL.of h2) .nil) (prsSh (k := 7)) (Sh.list (k := 8) fun d h => by simp at h) ?_
  cases s with
  | nil => exact q
  | cons o s =>
    have e : PyData.eqv (.list ((o :: s).map prD)) (.list []) = false := by
      rw [List.map_cons]
      simp [PyData.eqv, PyData.eqvAll]
    rw [e]
    exact q
/-! what lives in a block -/
def spLive : Sp := fun vs H Q _ => ∃ (d : Addr) (G : LG) (L : Ls) (k : Nat), vs = [.ref d, .int (k : Int)] ∧ LsAt H d G L ∧ k < L.hd.length ∧ ∀ p H', Same H H' → H p = none → H' p = some (.lst ((L.toB.mv k).map V.int)) → Q (.ref p) H'
theorem Ls.mv_eq (L : Ls) (k : Nat) : L.toB.mv k = (L.hd.getD k []).filterMap (oneE L.nw) := by
  unfold Bn.mv
  rw [Ls.getD, List.filterMap_map]
  rfl
theorem ok_live (T : Txt K mg) : FO P w K mg base 1 T.a__law_live T.fd__law_live ["_law_state", "_law_block"] spLive := by
  have sc := sc__law_live
  refine T.F__law_live.okX sc (fun vs H Q E h => ?_) (fun cdv A outer s H vs Q E hr h => ?_)
  · obtain ⟨_, _, _, _, rfl, _⟩ := h
    rfl
  obtain ⟨d, G, L, k, rfl, hL, hk, q⟩ := h
  rw [Ls.mv_eq] at q
  obtain ⟨ak, ys, hak, _, hys, hpl⟩ := hL.get hk
  have hd0 := hL.d0
  have hlh := hL.lh
  unfold lawK at hd0
  have hix : atI (G.sa.map V.ref) (k : Int) = some (.ref ak) := atI_nat (by rw [List.getElem?_map, hak]; rfl)
  have hsz : ys.length ≤ 3 := by
    rw [hpl.1, ← Ls.lenK]
    have h3 := hL.ok.bok.p3
    have hk' : k < L.toB.st.length := by rw [Ls.len]; exact hk
    have := hL.ok.bok.sz _ (List.getElem_mem hk')
    rw [List.getD_eq_getElem?_getD, List.getElem?_eq_getElem hk']
    show (L.toB.st[k]).length ≤ 3
    omega
  refine ⟨_, (pss_one (ps_ret (pe_lc (own := [("_law_sheet", 2), ("_law_stamp", 3)]) (by rfl) sc.nd (pi_list (pe_ix ix_seq (pe_dget (hu_of hr) (pv 0) pe_str (fun _ _ => rfl)) (pv 1) (fun _ _ => rfl))) (blkOk_by (own := [("_law_sheet", 2), ("_law_stamp", 3)]) (N := N__law_live) (sc := defScope s__law_live) (by decide +kernel)) (fun _ _ _ _ _ => (K_gtup (K := K) (n := 2) (by rfl) (pgs_cons (pg_name (i := 2) sc.nd rfl (by first | exact Or.inl rfl | exact Or.inr rfl)) (pgs_cons (pg_name (i := 3) sc.nd rfl (by first | exact Or.inl rfl | exact Or.inr rfl)) pgs_nil)))) (fun _ _ _ _ _ => (pts_one (pt_cmpR (K_eq (K := K) hr.units) (pe_dget (hu_of hr) (pe_dget (hu_of hr) (pv 0) pe_str (fun _ _ => rfl)) (pv 2) (fun _ _ => rfl)) (pv 3) (nomark _)))) (fun _ _ _ _ _ => (pv 2))))), ?_⟩
  walk_at "begin"
  walk_at "go"
  refine x_lcLK (SqL.of hys) (fun i acc H' => acc = (((L.hd.getD k []).take i).filterMap (oneE L.nw)).map V.int) (fun i acc H H' _ h => h) (small64 (by omega)) rfl ?_ ?_
  · intro i x acc H' hx hs' hacc NY NN hY hN
    have hil := (List.getElem?_eq_some_iff.mp hx).1
    obtain ⟨e, he⟩ : ∃ e, (L.hd.getD k [])[i]? = some e := ⟨_, List.getElem?_eq_getElem (by have := hpl.1; omega)⟩
    obtain ⟨t, rfl, ht⟩ := hpl.2 i x e hx he
    have ht' := hs' _ _ ht
    have hd0' := hs' _ _ hd0
    have hdn' := hs' _ _ hL.dn
    have hem : e ∈ L.hd.getD k [] := List.mem_of_getElem? he
    obtain ⟨tn, htn⟩ : ∃ t, getI L.nw e.1 = some t := by
      refine hL.ok.kb (L.hd.getD k []) ?_ e hem
      rw [List.getD_eq_getElem?_getD, List.getElem?_eq_getElem hk]
      exact List.getElem_mem hk
    have hval : valV (kvI L.nw) (.inl e.1) = some (.int tn) := by rw [valV_I, htn]; rfl
    have et : (L.hd.getD k []).take (i + 1) = (L.hd.getD k []).take i ++ [e] := by rw [List.take_add_one, he]; rfl
    dsimp only [wipe]
    refine x_gtup2 (SqT.of ht') ?_
    refine ⟨rfl, ?_⟩
    dsimp only [List.set]
    walk_at "go"
    refine x_dgI hdn' hval ?_
    walk_at "go"
    refine x_iteD (fun h => ?_) (fun h => ?_)
    · walk_at "go"
      refine hY _ _ (fun _ _ h => h) ?_
      show acc ++ _ = List.map V.int (((L.hd.getD k []).take (i + 1)).filterMap (oneE L.nw))
      have e1 : oneE L.nw e = some e.1 := if_pos (by rw [htn, h])
      rw [et, List.filterMap_append, List.map_append, hacc, List.filterMap_cons, e1]
      rfl
    · refine hN _ (fun _ _ h => h) ?_
      show acc = List.map V.int (((L.hd.getD k []).take (i + 1)).filterMap (oneE L.nw))
      have e1 : oneE L.nw e = none := if_neg (by rw [htn]; exact fun z => h (Option.some.inj z))
      rw [et, List.filterMap_append, List.map_append, hacc, List.filterMap_cons, e1]
      simp
  intro p acc H1 hp1 hs1 hn1 hacc
  rw [hpl.1, List.take_length] at hacc
  walk_at "go"
  exact q p H1 hs1 hp1 (by rw [hn1, hacc])
/-! whether room is short -/
def Bn.shQ (b : Bn) : Bool := decide (¬ 1 < (b.st.filter fun s => s.isEmpty).length) && decide ((b.st.filter (isPart b.p)).length = 0)
def spShort : Sp := fun vs H Q _ => ∃ (d : Addr) (G : LG) (L : Ls), vs = [.ref d] ∧ LsAt H d G L ∧ ∀ H', Same H H' → Q (.bl L.toB.shQ) H'
theorem filt_len {L : Ls} (f : Nat → Bool) : (L.toB.st.filter fun s => f s.length).length = (L.hd.filter fun s => f s.length).length := by
  show ((L.hd.map fun s => s.map (oneE L.nw)).filter fun s => f s.length).length = _
  rw [List.filter_map, List.length_map]
  congr 1
  refine List.filter_congr fun s _ => ?_
  show f (s.map (oneE L.nw)).length = f s.length
  rw [List.length_map]
theorem ok_short (T : Txt K mg) : FO P w K mg base 1 T.a__law_short T.fd__law_short ["_law_state"] spShort := by
  have sc := sc__law_short
  refine T.F__law_short.okX sc (fun vs H Q E h => ?_) (fun cdv A outer s H vs Q E hr h => ?_)
  · obtain ⟨_, _, _, rfl, _⟩ := h
    rfl
  obtain ⟨d, G, L, rfl, hL, q⟩ := h
  have hd0 := hL.d0
  have hlh := hL.lh
  unfold lawK at hd0
  have e1 : (L.toB.st.filter fun s => s.isEmpty).length = (L.hd.filter fun s => s.isEmpty).length := by
    have := filt_len (L := L) fun n => decide (n = 0)
    have c1 : ∀ {α : Type} (l : List (List α)), (l.filter fun s => s.isEmpty) = l.filter fun s => decide (s.length = 0) := fun l => List.filter_congr fun s _ => by cases s <;> rfl
    rw [c1, c1]
    exact this
  have e2 : (L.toB.st.filter (isPart L.toB.p)).length = (L.hd.filter fun s => decide ((0 : Int) < (s.length : Int) ∧ (s.length : Int) < L.p)).length := filt_len (L := L) fun n => decide ((0 : Int) < (n : Int) ∧ (n : Int) < L.p)
  have hl4 : L.hd.length ≤ 4 := by rw [← Ls.len]; exact hL.ok.bok.n4
  have hgs : ∀ {H' : Hp} {i : Nat} {x : V}, Same H H' → (G.sa.map V.ref)[i]? = some x → ∃ a ys s, x = .ref a ∧ L.hd[i]? = some s ∧ H' a = some (.lst ys) ∧ PairL H' ys s := fun {H' i x} hs hx => by
    rw [List.getElem?_map] at hx
    cases hg : G.sa[i]? with
    | none => rw [hg] at hx; cases hx
    | some a =>
      rw [hg] at hx
      cases hx
      have hil : i < L.hd.length := hL.len ▸ (List.getElem?_eq_some_iff.mp hg).1
      obtain ⟨ys, e, hp⟩ := hL.st i a _ hg (List.getElem?_eq_getElem hil)
      exact ⟨a, ys, _, rfl, List.getElem?_eq_getElem hil, hs _ _ e, hp.mono (TupS.of hs)⟩
  refine ⟨_, (pss_cons (ps_set (i := 1) sc.nd rfl (by first | exact Or.inl rfl | exact Or.inr rfl) (pe_dget (hu_of hr) (pv 0) pe_str (fun _ _ => rfl)))
      (pss_cons (ps_if (pt_cmpR op_gt (pe_callB (cr_ulen) (by rfl) T.b_len bt_len (pa_cons (pe_lc (own := [("_law_row", 2)]) (by rfl) sc.nd (pi_list (pv 1)) (blkOk_by (own := [("_law_row", 2)]) (N := N__law_short) (sc := defScope s__law_short) (by decide +kernel)) (fun _ _ _ _ _ => (pg_name (i := 2) sc.nd rfl (by first | exact Or.inl rfl | exact Or.inr rfl))) (fun _ _ _ _ _ => (pts_one (pt_cmpR (K_eq (K := K) hr.units) (pv 2) (pe_lst pa_nil) (nomark _)))) (fun _ _ _ _ _ => (pv 2))) pa_nil)) pe_int (nomark _)) (pss_one (ps_ret pe_bl)) pss_nil)
      (pss_one (ps_ret (pe_cmpR (op_uEq hr.units) (pe_callB (cr_ulen) (by rfl) T.b_len bt_len (pa_cons (pe_lc (own := [("_law_row", 2)]) (by rfl) sc.nd (pi_list (pv 1)) (blkOk_by (own := [("_law_row", 2)]) (N := N__law_short) (sc := defScope s__law_short) (by decide +kernel)) (fun _ _ _ _ _ => (pg_name (i := 2) sc.nd rfl (by first | exact Or.inl rfl | exact Or.inr rfl))) (fun _ _ _ _ _ => (pts_one (pt_chain op_uLt op_uLt pe_int (pe_callB ((K_ulen (K := K))) (by rfl) T.b_len bt_len (pa_cons (pv 2) pa_nil)) (pe_dget (hu_of hr) (pv 0) pe_str (fun _ _ => rfl))))) (fun _ _ _ _ _ => (pv 2))) pa_nil)) pe_int (nomark _)))))), ?_⟩
  walk_at "begin"
  walk_at "go"
  walk_at "if"
  refine x_lcLK (SqL.of hlh) (fun i acc H' => acc.length = ((L.hd.take i).filter fun s => s.isEmpty).length) (fun i acc H H' _ h => h) (small64 (by rw [List.length_map, hL.len]; omega)) rfl ?_ ?_
  · intro i x acc H' hx hs' hacc NY NN hY hN
    obtain ⟨a, ys, s1, rfl, hs1, hys, hpl⟩ := hgs hs' hx
    have et : L.hd.take (i + 1) = L.hd.take i ++ [s1] := by rw [List.take_add_one, hs1]; rfl
    dsimp only [wipe]
    walk_at "go"
    refine ⟨rfl, ?_⟩
    walk_at "go"
    rename_i pe H2 hpe hs2 hn2
    refine x_eqNilP (hpl.mono (TupS.of hs2)) (hs2 _ _ hys) hn2 ?_
    walk_at "go"
    by_cases hc : s1.isEmpty = true
    · rw [if_pos hc]
      walk_at "go"
      refine hY _ _ hs2 ?_
      show (acc ++ [_]).length = ((L.hd.take (i + 1)).filter fun s => s.isEmpty).length
      rw [et, List.filter_append, List.length_append, List.length_append, hacc, List.filter_cons, if_pos hc]
      rfl
    · rw [if_neg hc]
      refine hN _ hs2 ?_
      show acc.length = ((L.hd.take (i + 1)).filter fun s => s.isEmpty).length
      rw [et, List.filter_append, List.length_append, hacc, List.filter_cons, if_neg hc]
      rfl
  intro p1 acc H1 hp1 hs1 hn1 hacc
  rw [List.length_map, hL.len, List.take_length] at hacc
  have hlh1 := hs1 _ _ hlh
  have hd01 := hs1 _ _ hd0
  unfold Bn.shQ at q
  rw [e1, e2] at q
  walk_at "go"
  rw [hacc]
  refine x_iteD (fun h => ?_) (fun h => ?_)
  · rw [decide_eq_false (fun z => z (by omega)), Bool.false_and] at q
    walk_at "go"
    exact q H1 hs1
  rw [decide_eq_true (show ¬ 1 < (L.hd.filter fun s => s.isEmpty).length by omega), Bool.true_and] at q
  walk_at "go"
  refine x_lcLK (SqL.of hlh1) (fun i acc H' => acc.length = ((L.hd.take i).filter fun s => decide ((0 : Int) < (s.length : Int) ∧ (s.length : Int) < L.p)).length) (fun i acc H H' _ h => h) (small64 (by rw [List.length_map, hL.len]; omega)) rfl ?_ ?_
  · intro i x acc H' hx hs' hacc NY NN hY hN
    obtain ⟨a, ys, s1, rfl, hs1', hys, hpl⟩ := hgs (hs1.trans hs') hx
    have hd0' := hs' _ _ hd01
    have et : L.hd.take (i + 1) = L.hd.take i ++ [s1] := by rw [List.take_add_one, hs1']; rfl
    have no : ¬ ((0 : Int) < (s1.length : Int) ∧ (s1.length : Int) < L.p) → NN H' := fun hc => hN _ (fun _ _ h => h) (by
      show acc.length = ((L.hd.take (i + 1)).filter fun s => decide ((0 : Int) < (s.length : Int) ∧ (s.length : Int) < L.p)).length
      rw [et, List.filter_append, List.length_append, hacc, List.filter_cons, if_neg (by rw [decide_eq_false hc]; decide)]
      rfl)
    dsimp only [wipe]
    walk_at "go"
    refine ⟨rfl, ?_⟩
    walk_at "go"
    rw [hpl.1]
    refine x_iteD (fun h0 => ?_) (fun h0 => ?_)
    · walk_at "go"
      refine x_iteD (fun h1 => ?_) (fun h1 => ?_)
      · walk_at "go"
        refine hY _ _ (fun _ _ h => h) ?_
        show (acc ++ [_]).length = ((L.hd.take (i + 1)).filter fun s => decide ((0 : Int) < (s.length : Int) ∧ (s.length : Int) < L.p)).length
        rw [et, List.filter_append, List.length_append, List.length_append, hacc, List.filter_cons, if_pos (decide_eq_true ⟨h0, h1⟩)]
        rfl
      · exact no fun z => h1 z.2
    · refine ⟨_, rfl, ?_⟩
      rw [if_neg (by decide)]
      exact no fun z => h0 z.1
  intro p2 acc2 H2 hp2 hs2 hn2 hacc2
  rw [List.length_map, hL.len, List.take_length] at hacc2
  walk_at "go"
  rw [hacc2]
  have := q H2 (hs1.trans hs2)
  rw [show decide (((L.hd.filter fun s => decide ((0 : Int) < (s.length : Int) ∧ (s.length : Int) < L.p)).length : Int) = 0) = decide ((L.hd.filter fun s => decide ((0 : Int) < (s.length : Int) ∧ (s.length : Int) < L.p)).length = 0) from decide_eq_decide.mpr (by omega)]
  exact this
/-! the blocks that may be cleared -/
theorem fm_lt {α β : Type} [BEq β] [LawfulBEq β] (f : α → Option β) : ∀ l : List α, decide (((l.filterMap f).length : Int) < (l.length : Int)) = (l.map f).contains none
  | [] => rfl
  | x :: l => by
    have ih := fm_lt f l
    rw [List.map_cons, List.contains_cons, ← ih]
    cases h : f x with
    | none =>
      rw [List.filterMap_cons, h]
      have := List.length_filterMap_le f l
      rw [decide_eq_true (show ((l.filterMap f).length : Int) < ((x :: l).length : Int) by rw [List.length_cons]; omega)]
      rfl
    | some y =>
      rw [List.filterMap_cons, h]
      show decide ((((l.filterMap f).length + 1 : Nat) : Int) < ((l.length + 1 : Nat) : Int)) = (false || _)
      rw [Bool.false_or]
      exact decide_eq_decide.mpr (by omega)
def spWays : Sp := fun vs H Q _ => ∃ (d : Addr) (G : LG) (L : Ls), vs = [.ref d] ∧ LsAt H d G L ∧ ∀ p H', Same H H' → H p = none → H' p = some (.lst ((L.toB.chs.map fun k : Nat => (k : Int)).map V.int)) → Q (.ref p) H'
theorem ok_ways (T : Txt K mg) : FO P w K mg base 2 T.a__law_ways T.fd__law_ways ["_law_state"] spWays := by
  have sc := sc__law_ways
  refine T.F__law_ways.okX sc (fun vs H Q E h => ?_) (fun cdv A outer s H vs Q E hr h => ?_)
  · obtain ⟨_, _, _, rfl, _⟩ := h
    rfl
  obtain ⟨d, G, L, rfl, hL, q⟩ := h
  have hd0 := hL.d0
  have hlh := hL.lh
  unfold lawK at hd0
  have hl4 : L.hd.length ≤ 4 := by rw [← Ls.len]; exact hL.ok.bok.n4
  refine ⟨_, (pss_cons (ps_set (i := 1) sc.nd rfl (by first | exact Or.inl rfl | exact Or.inr rfl) (pe_lst pa_nil))
      (pss_cons (ps_for (passes_of rfl) rfl (pi_enum (by rfl) T.b_enumerate (pa_cons (pe_dget (hu_of hr) (pv 0) pe_str (fun _ _ => rfl)) pa_nil)) (pg_tup (by rfl) (pgs_cons (pg_name (i := 2) sc.nd rfl (by first | exact Or.inl rfl | exact Or.inr rfl)) (pgs_cons (pg_name (i := 3) sc.nd rfl (by first | exact Or.inl rfl | exact Or.inr rfl)) pgs_nil))) (pss_one (ps_if (PW.pt (pw_and (pt_cmpR (op_uEq hr.units) (pe_callB (cr_ulen) (by rfl) T.b_len bt_len (pa_cons (pv 3) pa_nil)) (pe_dget (hu_of hr) (pv 0) pe_str (fun _ _ => rfl)) (nomark _)) (pw_and1 (pt_cmpR op_uLt (pe_callB (cr_ulen) (by rfl) T.b_len bt_len (pa_cons (pe_callS (ok_live T) (hr.mono (by decide)) (by rfl) T.g__law_live T.k__law_live T.bd__law_live (passAt (takes_of rfl rfl rfl rfl)) (pa_cons (pv 0) (pa_cons (pv 2) pa_nil))) pa_nil)) (pe_callB (cr_ulen) (by rfl) T.b_len bt_len (pa_cons (pv 3) pa_nil)) (nomark _))))) (pss_one (ps_expr (pe_bm PySem.F.plainAttrs_list PySem.F.slot_list_append PySem.F.type_list_append mt_append (pv 1) (pa_cons (pv 2) pa_nil)))) pss_nil)))
      (pss_one (ps_ret (pv 1))))), ?_⟩
  walk_at "begin"
  walk_at "go"
  rename_i pf H1 hpf hs1 hn1
  refine x_seq ?_
  walk_at "go"
  refine x_frEn (SqL.of (hs1 _ _ hlh)) (fun i σ H' => ∃ (v2 v3 : Option V), σ = [some (.ref d), some (.ref pf), v2, v3] ∧ Same H H' ∧ H' pf = some (.lst ((((List.range i).filter L.toB.isCh).map fun k : Nat => (k : Int)).map V.int)) ∧ i ≤ 4) ⟨_, _, rfl, hs1, hn1, by decide⟩ (fun i σ H' _ ⟨_, _, _, s, _⟩ => s.seq (SqL.of hlh)) ?_ ?_
  · intro i x σ H2 H3 hx ⟨v2, v3, hσ, hs2, hn2, hi4⟩ hs3
    subst hσ
    dsimp only [List.set]
    have s03 := hs2.trans hs3
    rw [List.getElem?_map] at hx
    cases hg : G.sa[i]? with
    | none => rw [hg] at hx; cases hx
    | some a =>
      rw [hg] at hx
      cases hx
      have hil : i < L.hd.length := hL.len ▸ (List.getElem?_eq_some_iff.mp hg).1
      obtain ⟨ys, hys, hpl⟩ := hL.st i a _ hg (List.getElem?_eq_getElem hil)
      have hys3 := s03 _ _ hys
      have hd03 := s03 _ _ hd0
      have hL3 := hL.mono s03
      have hn3 := hs3 _ _ hn2
      have er : (List.range (i + 1)).filter L.toB.isCh = (List.range i).filter L.toB.isCh ++ (if L.toB.isCh i = true then [i] else []) := by
        rw [List.range_succ, List.filter_append, List.filter_cons]
        rfl
      have ech : L.toB.isCh i = (decide (((L.hd[i]).length : Int) = L.p) && decide ((((L.hd[i]).filterMap (oneE L.nw)).length : Int) < ((L.hd[i]).length : Int))) := by
        unfold Bn.isCh
        rw [fm_lt, Ls.lenK, Ls.getD, List.getD_eq_getElem?_getD, List.getElem?_eq_getElem hil]
        rfl
      have hmv : L.toB.mv i = (L.hd[i]).filterMap (oneE L.nw) := by
        rw [Ls.mv_eq, List.getD_eq_getElem?_getD, List.getElem?_eq_getElem hil]
        rfl
      have hlen3 : ((((List.range i).filter L.toB.isCh).map fun k : Nat => (k : Int)).map V.int).length < sizeLine := small64 (by
        rw [List.length_map, List.length_map]
        have := List.length_filter_le L.toB.isCh (List.range i)
        rw [List.length_range] at this
        omega)
      walk_at "go"
      rw [hpl.1]
      refine x_iteD (fun h0 => ?_) (fun h0 => ?_)
      · walk_at "go"
        refine ⟨d, G, L, i, rfl, hL3, hil, fun pl H4 hs4 hpl4 hn4 => ?_⟩
        have hys4 := hs4 _ _ hys3
        have hn4f := hs4 _ _ hn3
        rw [hmv] at hn4
        walk_at "go"
        rw [hpl.1]
        refine x_iteD (fun h1 => ?_) (fun h1 => ?_)
        · walk_at "go"
          refine ⟨_, _, rfl, same_updS (s03.trans hs4) hpf, ?_, by omega⟩
          rw [upd_same, er, ech, decide_eq_true h0, decide_eq_true h1, if_pos (by decide), List.map_append, List.map_append]
          rfl
        · walk_at "go"
          refine ⟨_, _, rfl, s03.trans hs4, ?_, by omega⟩
          rw [hn4f, er, ech, decide_eq_false h1, Bool.and_false, if_neg (by decide), List.append_nil]
      · walk_at "go"
        refine ⟨_, _, rfl, s03, ?_, by omega⟩
        rw [hn3, er, ech, decide_eq_false h0, Bool.false_and, if_neg (by decide), List.append_nil]
  · intro σ H2 ⟨v2, v3, hσ, hs2, hn2, hi4⟩
    subst hσ
    rw [List.length_map, hL.len, ← Ls.len] at hn2
    dsimp only
    walk_at "go"
    exact q pf H2 hs2 hpf hn2
/-! ### the model's put, in plain terms -/
theorem killS_cons (x : Int) (y : Option Int) (l : List (Option Int)) : killS x (y :: l) = if y = some x then none :: l else y :: killS x l := by
  unfold killS
  rw [List.idxOf_cons]
  by_cases h : y = some x
  · rw [beq_iff_eq.mpr h, if_pos h]
    rfl
  · rw [beq_eq_false_iff_ne.mpr h, if_neg h]
    rfl
theorem killS_map {x : Int} : ∀ {l : List (Option Int)}, l.Pairwise (fun a b => ¬ (a = some x ∧ b = some x)) → killS x l = l.map fun o => if o = some x then none else o
  | [], _ => rfl
  | y :: l, h => by
    have h := List.pairwise_cons.mp h
    rw [killS_cons, List.map_cons]
    by_cases e : y = some x
    · rw [if_pos e, if_pos e]
      congr 1
      refine (List.map_id' l).symm.trans (List.map_congr_left fun o ho => ?_)
      rw [if_neg (fun z => h.1 o ho ⟨e, z⟩)]
    · rw [if_neg e, if_neg e, killS_map h.2]
theorem kill_beg (b : Bn) (x : Int) : (b.kill x).beg = b.beg := by
  unfold Bn.beg
  show (b.st.map (killS x)).findIdx? (isPart b.p) = _
  rw [List.findIdx?_map]
  congr 1
  funext s
  show isPart b.p (killS x s) = isPart b.p s
  unfold isPart
  rw [killS_len]
theorem kill_emp (b : Bn) (x : Int) : (b.kill x).emp = b.emp := by
  unfold Bn.emp
  have hl : (b.kill x).st.length = b.st.length := List.length_map _
  rw [hl]
  congr 2
  unfold Bn.empP
  congr 1
  refine List.filter_congr fun k _ => ?_
  have := Bn.kill_get b x k
  cases h1 : (b.kill x).st.getD k [] <;> cases h2 : b.st.getD k [] <;> rw [h1, h2] at this <;> first | rfl | cases this
theorem kill_spot (b : Bn) (x : Int) : (b.kill x).spot = b.spot := by
  unfold Bn.spot
  rw [kill_beg, kill_emp]
theorem getP {ps : List (Int × Int)} {n x m : Int} : getI (putI ps n x) m = if m = n then some x else getI ps m := by
  have h := valV_I (n := m) (ps := putI ps n x)
  rw [← putK_I, valV_put, valV_I] at h
  have inj : ∀ {a b : Option Int}, a.map V.int = b.map V.int → a = b := fun {a b} e => by
    cases a <;> cases b <;> first | rfl | (cases e <;> rfl)
  by_cases e : m = n
  · rw [if_pos (by rw [e])] at h
    rw [if_pos e]
    exact inj h.symm
  · rw [if_neg (fun z => e (Sum.inl.inj z))] at h
    rw [if_neg e]
    exact inj h.symm
theorem putI_len1 {ps : List (Int × Int)} {n x : Int} : (putI ps n x).length ≤ ps.length + 1 := by
  unfold putI
  split
  · rw [List.length_map]
    omega
  · rw [List.length_append]
    exact Nat.le_refl _
def Ls.put (L : Ls) (k : Nat) (x : Int) : Ls := { L with hd := L.hd.set k (L.hd.getD k [] ++ [(x, L.sp + 1)]), nw := putI L.nw x (L.sp + 1), sp := L.sp + 1 }
theorem set_perm {α : Type} (e : α) : ∀ (l : List (List α)) (k : Nat), k < l.length → (l.set k (l.getD k [] ++ [e])).flatten.Perm (e :: l.flatten)
  | [], k, h => by simp at h
  | s :: l, 0, _ => by
    show ((s ++ [e]) ++ l.flatten).Perm (e :: (s ++ l.flatten))
    rw [List.append_assoc]
    exact List.perm_middle
  | s :: l, k + 1, h => by
    have ih := set_perm e l k (by simpa using h)
    show (s ++ (l.set k (l.getD k [] ++ [e])).flatten).Perm (e :: (s ++ l.flatten))
    exact (List.Perm.append_left s ih).trans List.perm_middle
theorem sub_flat {α : Type} {s : List α} : ∀ {l : List (List α)}, s ∈ l → s.Sublist l.flatten
  | t :: l, h => by
    rcases List.mem_cons.mp h with rfl | h
    · exact List.sublist_append_left _ _
    · exact (sub_flat h).trans (List.sublist_append_right _ _)
theorem put_spec {L : Ls} {x : Int} {b' : Bn} (h : LsOk L) (he : L.toB.lay x = some b') : ∃ k, L.toB.spot = some k ∧ k < L.hd.length ∧ (L.put k x).toB = b' ∧ LsOk (L.put k x) := by
  have hok' := (h.bok.lay he).1
  unfold Bn.lay at he
  rw [kill_spot] at he
  cases hs : L.toB.spot with
  | none => rw [hs] at he; cases he
  | some k =>
    rw [hs] at he
    have he : (L.toB.kill x).app k x = b' := Option.some.inj he
    have hk := (Bn.spot_lt h.bok hs).1
    rw [Ls.len] at hk
    have pw : ∀ s ∈ L.hd, s.map (oneE (putI L.nw x (L.sp + 1))) = killS x (s.map (oneE L.nw)) := fun s hsm => by
      have nd : (s.map (·.2)).Nodup := List.Nodup.sublist ((sub_flat hsm).map _) h.nd
      rw [killS_map, List.map_map]
      · refine List.map_congr_left fun e hem => ?_
        have hu := h.ub s hsm e hem
        show oneE (putI L.nw x (L.sp + 1)) e = (fun o => if o = some x then none else o) (oneE L.nw e)
        dsimp only
        by_cases hx : e.1 = x
        · have e1 : oneE (putI L.nw x (L.sp + 1)) e = none := by
            unfold oneE
            rw [getP, if_pos hx, if_neg]
            intro z
            have := Option.some.inj z
            omega
          rw [e1]
          unfold oneE
          by_cases hg : getI L.nw e.1 = some e.2
          · rw [if_pos hg, if_pos (by rw [hx])]
          · rw [if_neg hg, if_neg (fun z => by cases z)]
        · have e1 : oneE (putI L.nw x (L.sp + 1)) e = oneE L.nw e := by
            unfold oneE
            rw [getP, if_neg hx]
          rw [e1]
          unfold oneE
          by_cases hg : getI L.nw e.1 = some e.2
          · rw [if_pos hg, if_neg (fun z => hx (Option.some.inj z))]
          · rw [if_neg hg, if_neg (fun z => by cases z)]
      · rw [List.pairwise_map]
        refine (List.pairwise_map.mp nd).imp fun {e e'} hne ⟨z1, z2⟩ => hne ?_
        unfold oneE at z1 z2
        by_cases g1 : getI L.nw e.1 = some e.2
        · by_cases g2 : getI L.nw e'.1 = some e'.2
          · rw [if_pos g1] at z1
            rw [if_pos g2] at z2
            have a1 := Option.some.inj z1
            have a2 := Option.some.inj z2
            rw [a1] at g1
            rw [a2, g1] at g2
            exact Option.some.inj g2
          · rw [if_neg g2] at z2
            cases z2
        · rw [if_neg g1] at z1
          cases z1
    have hB : (L.put k x).toB = b' := by
      rw [← he]
      unfold Ls.put Ls.toB Bn.app Bn.kill
      dsimp only
      have e1 : L.hd.map (fun s => s.map (oneE (putI L.nw x (L.sp + 1)))) = (L.hd.map fun s => s.map (oneE L.nw)).map (killS x) := by
        rw [List.map_map]
        exact List.map_congr_left fun s hs => pw s hs
      have e2 : (L.hd.getD k [] ++ [(x, L.sp + 1)]).map (oneE (putI L.nw x (L.sp + 1))) = ((L.hd.map fun s => s.map (oneE L.nw)).map (killS x)).getD k [] ++ [some x] := by
        rw [List.map_append, List.getD_eq_getElem?_getD, List.getD_eq_getElem?_getD, List.getElem?_map, List.getElem?_map, List.getElem?_eq_getElem hk]
        show L.hd[k].map _ ++ [oneE (putI L.nw x (L.sp + 1)) (x, L.sp + 1)] = killS x (L.hd[k].map (oneE L.nw)) ++ [some x]
        rw [pw _ (List.getElem_mem hk)]
        congr 2
        unfold oneE
        rw [getP, if_pos rfl, if_pos rfl]
      rw [List.map_set, e2, e1]
    refine ⟨k, rfl, hk, hB, ⟨by rw [hB]; exact hok', fun s hs e hem => ?_, fun s hs e hem => ?_, fun y t ht => ?_, ?_, ?_⟩⟩
    · have hs : s ∈ L.hd.set k (L.hd.getD k [] ++ [(x, L.sp + 1)]) := hs
      show e.2 ≤ L.sp + 1
      rcases List.mem_or_eq_of_mem_set hs with hs | rfl
      · have := h.ub s hs e hem
        omega
      · rcases List.mem_append.mp hem with hem | hem
        · rw [List.getD_eq_getElem?_getD, List.getElem?_eq_getElem hk] at hem
          have := h.ub _ (List.getElem_mem hk) e hem
          omega
        · rw [List.mem_singleton.mp hem]
          exact Int.le_refl _
    · have hs : s ∈ L.hd.set k (L.hd.getD k [] ++ [(x, L.sp + 1)]) := hs
      show ∃ t, getI (putI L.nw x (L.sp + 1)) e.1 = some t
      rw [getP]
      by_cases hx : e.1 = x
      · exact ⟨_, if_pos hx⟩
      · rw [if_neg hx]
        rcases List.mem_or_eq_of_mem_set hs with hs | rfl
        · exact h.kb s hs e hem
        · rcases List.mem_append.mp hem with hem | hem
          · rw [List.getD_eq_getElem?_getD, List.getElem?_eq_getElem hk] at hem
            exact h.kb _ (List.getElem_mem hk) e hem
          · rw [List.mem_singleton.mp hem] at hx
            exact absurd rfl hx
    · have ht : getI (putI L.nw x (L.sp + 1)) y = some t := ht
      show t ≤ L.sp + 1
      rw [getP] at ht
      by_cases hx : y = x
      · rw [if_pos hx] at ht
        cases ht
        exact Int.le_refl _
      · rw [if_neg hx] at ht
        have := h.nb y t ht
        omega
    · show (((L.hd.set k (L.hd.getD k [] ++ [(x, L.sp + 1)])).flatten).map (·.2)).Nodup
      refine ((set_perm (x, L.sp + 1) L.hd k hk).map (·.2)).nodup_iff.mpr ?_
      rw [List.map_cons]
      refine List.nodup_cons.mpr ⟨fun m => ?_, h.nd⟩
      obtain ⟨e, he, e2⟩ := List.mem_map.mp m
      obtain ⟨s, hs, hem⟩ := List.mem_flatten.mp he
      have := h.ub s hs e hem
      have e2 : e.2 = L.sp + 1 := e2
      omega
    · have := putI_len1 (ps := L.nw) (n := x) (x := L.sp + 1)
      have := h.nl
      show ((putI L.nw x (L.sp + 1)).length : Int) ≤ L.sp + 1
      omega
def Ls.wip (L : Ls) (k : Nat) : Ls := { L with hd := L.hd.set k [], tm := L.tm.set k (L.tm.getD k 0 + 1) }
theorem wip_spec {L : Ls} {k : Nat} (h : LsOk L) : (L.wip k).toB = L.toB.wip k ∧ LsOk (L.wip k) := by
  have hB : (L.wip k).toB = L.toB.wip k := by
    unfold Ls.wip Ls.toB Bn.wip
    dsimp only
    rw [List.map_set]
    rfl
  have hm : ∀ s ∈ L.hd.set k [], s ∈ L.hd ∨ s = [] := fun s hs => List.mem_or_eq_of_mem_set hs
  refine ⟨hB, ⟨by rw [hB]; exact h.bok.wip, fun s hs e hem => ?_, fun s hs e hem => ?_, h.nb, ?_, h.nl⟩⟩
  · rcases hm s hs with hs | rfl
    · exact h.ub s hs e hem
    · cases hem
  · rcases hm s hs with hs | rfl
    · exact h.kb s hs e hem
    · cases hem
  · have sl : ∀ (l : List (List (Int × Int))) (k : Nat), (l.set k []).flatten.Sublist l.flatten := by
      intro l
      induction l with
      | nil => intro k; exact List.Sublist.refl _
      | cons s l ih =>
        intro k
        cases k with
        | zero => exact List.sublist_append_right _ _
        | succ k => exact List.Sublist.append_left (ih k) s
    exact List.Nodup.sublist ((sl L.hd k).map _) h.nd
/-! ### the model's put, walked -/
theorem kv_le {L : Ls} (h : LsOk L) (hs : L.sp ≤ 900) : (kvI L.nw).length ≤ 1000 := by
  have := h.nl
  rw [kvI_len]
  omega
theorem Off.tupsL {S : List Addr} {H H' : Hp} (s : Off S H H') (h : ∀ a ∈ S, ∀ xs, H a ≠ some (.tup xs)) : TupS H H' := fun a xs e => s a _ (fun m => h a m xs e) e
theorem LsAt.notup {H : Hp} {d : Addr} {G : LG} {L : Ls} (h : LsAt H d G L) : ∀ a ∈ d :: G.all, ∀ xs, H a ≠ some (.tup xs) := fun a ha xs z => by
  rcases List.mem_cons.mp ha with rfl | ha
  · rw [h.d0] at z; cases z
  rcases List.mem_cons.mp ha with rfl | ha
  · rw [h.lh] at z; cases z
  rcases List.mem_cons.mp ha with rfl | ha
  · rw [h.lt] at z; cases z
  rcases List.mem_cons.mp ha with rfl | ha
  · rw [h.dn] at z; cases z
  · obtain ⟨i, hi⟩ := List.mem_iff_getElem?.mp ha
    obtain ⟨ys, e, _⟩ := h.st i a _ hi (List.getElem?_eq_getElem (h.len ▸ (List.getElem?_eq_some_iff.mp hi).1))
    rw [e] at z
    cases z
theorem beg_head (b : Bn) : b.beg = ((List.range b.st.length).filter fun j => isPart b.p (b.st.getD j [])).head? := by
  rw [List.head?_filter]
  cases h : b.beg with
  | none =>
    symm
    refine List.find?_eq_none.mpr fun j hj => ?_
    have hj := List.mem_range.mp hj
    have := Bn.beg_none h b.st[j] (List.getElem_mem hj)
    rw [List.getD_eq_getElem?_getD, List.getElem?_eq_getElem hj]
    show ¬ isPart b.p b.st[j] = true
    rw [this]
    decide
  | some i =>
    obtain ⟨h1, h2, h3⟩ := Bn.beg_some h
    symm
    refine List.find?_range_eq_some.mpr ⟨?_, List.mem_range.mpr h1, fun j hj => ?_⟩
    · rw [List.getD_eq_getElem?_getD, List.getElem?_eq_getElem h1]
      exact h2
    · rw [List.getD_eq_getElem?_getD, List.getElem?_eq_getElem (Nat.lt_trans hj h1)]
      show (!isPart b.p b.st[j]) = true
      rw [h3 j hj]
      rfl
def spLPut : Sp := fun vs H Q _ => ∃ (d : Addr) (G : LG) (L : Ls) (b' : Bn) (x : Int), vs = [.ref d, .int x] ∧ LsAt H d G L ∧ L.toB.lay x = some b' ∧ L.sp ≤ 900 ∧
  ∀ L' H', Off (d :: G.all) H H' → TupS H H' → LsAt H' d G L' → L'.toB = b' → L'.sp = L.sp + 1 → L'.hd.length = L.hd.length → Q .non H'
theorem ok_put (T : Txt K mg) : FO P w K mg base 1 T.a__law_put T.fd__law_put ["_law_state", "_law_sheet"] spLPut := by
  have sc := sc__law_put
  refine T.F__law_put.okX sc (fun vs H Q E h => ?_) (fun cdv A outer s H vs Q E hr h => ?_)
  · obtain ⟨_, _, _, _, _, rfl, _⟩ := h
    rfl
  obtain ⟨d, G, L, b', x, rfl, hL, he, hsp, q⟩ := h
  obtain ⟨k, hspot, hk, hB', hok'⟩ := put_spec hL.ok he
  have hd0 := hL.d0
  have hlh := hL.lh
  have hlt := hL.lt
  have hdn := hL.dn
  unfold lawK at hd0
  have hl4 : L.hd.length ≤ 4 := by rw [← Ls.len]; exact hL.ok.bok.n4
  have hgl : G.sa.length = L.hd.length := hL.len
  obtain ⟨ak, ysk, hak, hakm, hysk, hplk⟩ := hL.get hk
  have hget : ∀ {H' : Hp} {i : Nat}, Same H H' → i < L.hd.length → ∃ a ys, atI (G.sa.map V.ref) (i : Int) = some (.ref a) ∧ H' a = some (.lst ys) ∧ PairL H' ys (L.hd.getD i []) := fun {H' i} hs hi => by
    obtain ⟨a, ys, h1, _, h2, h3⟩ := hL.get hi
    exact ⟨a, ys, atI_nat (by rw [List.getElem?_map, h1]; rfl), hs _ _ h2, h3.mono (TupS.of hs)⟩
  have epart : ∀ i, isPart L.toB.p (L.toB.st.getD i []) = decide ((0 : Int) < ((L.hd.getD i []).length : Int) ∧ ((L.hd.getD i []).length : Int) < L.p) := fun i => by
    unfold isPart
    rw [Ls.lenK]
    rfl
  refine ⟨_, (pss_cons (ps_set (i := 2) sc.nd rfl (by first | exact Or.inl rfl | exact Or.inr rfl) (pe_dget (hu_of hr) (pv 0) pe_str (fun _ _ => rfl)))
      (pss_cons (ps_setLc (i := 3) (own := [("_law_k", 4)]) (by rfl) sc.nd rfl rfl (sw_true rfl rfl rfl (by decide +kernel)) (pi_range1 (by rfl) T.b_range (pa_cons (pe_callB (cr_ulen) (by rfl) T.b_len bt_len (pa_cons (pv 2) pa_nil)) pa_nil)) (blkOk_by (own := [("_law_k", 4)]) (N := N__law_put) (sc := defScope s__law_put) (by decide +kernel)) (fun _ _ _ _ _ => (pg_name (i := 4) sc.nd rfl (by first | exact Or.inl rfl | exact Or.inr rfl))) (fun _ _ _ _ _ => (pts_one (pt_chain op_uLt op_uLt pe_int (pe_callB ((K_ulen (K := K))) (by rfl) T.b_len bt_len (pa_cons (pe_ix (K_ix (K := K)) (pv 2) (pv 4) (fun _ _ => rfl)) pa_nil)) (pe_dget (hu_of hr) (pv 0) pe_str (fun _ _ => rfl))))) (fun _ _ _ _ _ => (pv 4)))
      (pss_cons (ps_if (pt_cmpR (op_uEq hr.units) (pv 3) (pe_lst pa_nil) (nomark _)) (pss_cons (ps_set (i := 5) sc.nd rfl (by first | exact Or.inl rfl | exact Or.inr rfl) (pe_callB (cr_usorted) (by rfl) T.b_sorted bt_sorted (pa_cons (pe_lc (own := [("_law_k", 4)]) (by rfl) sc.nd (pi_range1 (by rfl) T.b_range (pa_cons (pe_callB (cr_ulen) (by rfl) T.b_len bt_len (pa_cons (pv 2) pa_nil)) pa_nil)) (blkOk_by (own := [("_law_k", 4)]) (N := N__law_put) (sc := defScope s__law_put) (by decide +kernel)) (fun _ _ _ _ _ => (pg_name (i := 4) sc.nd rfl (by first | exact Or.inl rfl | exact Or.inr rfl))) (fun _ _ _ _ _ => (pts_one (pt_cmpR (K_eq (K := K) hr.units) (pe_ix (K_ix (K := K)) (pv 2) (pv 4) (fun _ _ => rfl)) (pe_lst pa_nil) (nomark _)))) (fun _ _ _ _ _ => (pe_tup (pa_cons (pe_ix (K_ix (K := K)) (pe_dget (hu_of hr) (pv 0) pe_str (fun _ _ => rfl)) (pv 4) (fun _ _ => rfl)) (pa_cons (pv 4) pa_nil))))) pa_nil)))
      (pss_one (ps_set (i := 3) sc.nd rfl (by first | exact Or.inl rfl | exact Or.inr rfl) (pe_lst (pa_cons (pe_ix ix_seq (pe_ix ix_seq (pv 5) pe_int (fun _ _ => rfl)) pe_int (fun _ _ => rfl)) pa_nil))))) pss_nil)
      (pss_cons (ps_daug (hu_of hr) (pv 0) pe_str pe_int in_add (fun _ _ _ => rfl))
      (pss_cons (ps_expr (pe_bm PySem.F.plainAttrs_list PySem.F.slot_list_append PySem.F.type_list_append mt_append (pe_ix ix_seq (pv 2) (pe_ix ix_seq (pv 3) pe_int (fun _ _ => rfl)) (fun _ _ => rfl)) (pa_cons (pe_tup (pa_cons (pv 1) (pa_cons (pe_dget (hu_of hr) (pv 0) pe_str (fun _ _ => rfl)) pa_nil))) pa_nil)))
      (pss_one (ps_dput (hu_of hr) (pe_dget (hu_of hr) (pv 0) pe_str (fun _ _ => rfl)) (pv 1) (pe_dget (hu_of hr) (pv 0) pe_str (fun _ _ => rfl)) rfl))))))), ?_⟩
  walk_at "begin"
  walk_at "go"
  refine x_lcR1K (fun i acc H' => acc = ((((List.range i).filter fun j => isPart L.toB.p (L.toB.st.getD j [])).map fun k : Nat => (k : Int)).map V.int)) (fun i acc H H' _ h => h) ⟨by omega, by omega⟩ rfl ?_ ?_
  · intro i acc H' hi hs' hacc NY NN hY hN
    rw [Int.toNat_natCast, hgl] at hi
    obtain ⟨a, ys, hix, hys, hpl⟩ := hget hs' hi
    have hlh' := hs' _ _ hlh
    have hd0' := hs' _ _ hd0
    have er : ∀ b, isPart L.toB.p (L.toB.st.getD i []) = b → (List.range (i + 1)).filter (fun j => isPart L.toB.p (L.toB.st.getD j [])) = (List.range i).filter (fun j => isPart L.toB.p (L.toB.st.getD j [])) ++ (if b = true then [i] else []) := fun b hb => by
      rw [List.range_succ, List.filter_append, List.filter_cons, hb]
      rfl
    have no : ¬ ((0 : Int) < ((L.hd.getD i []).length : Int) ∧ ((L.hd.getD i []).length : Int) < L.p) → NN H' := fun hc => hN _ (fun _ _ h => h) (by
      show acc = List.map V.int (List.map (fun k : Nat => (k : Int)) ((List.range (i + 1)).filter fun j => isPart L.toB.p (L.toB.st.getD j [])))
      rw [er false (by rw [epart]; exact decide_eq_false hc), if_neg (by decide), List.append_nil]
      exact hacc)
    dsimp only [wipe]
    walk_at "go"
    refine ⟨rfl, ?_⟩
    walk_at "go"
    rw [hpl.1]
    refine x_iteD (fun h0 => ?_) (fun h0 => ?_)
    · walk_at "go"
      refine x_iteD (fun h1 => ?_) (fun h1 => ?_)
      · walk_at "go"
        refine hY _ _ (fun _ _ h => h) ?_
        show acc ++ _ = List.map V.int (List.map (fun k : Nat => (k : Int)) ((List.range (i + 1)).filter fun j => isPart L.toB.p (L.toB.st.getD j [])))
        rw [er true (by rw [epart]; exact decide_eq_true ⟨h0, h1⟩), if_pos rfl, List.map_append, List.map_append, hacc]
        rfl
      · exact no fun z => h1 z.2
    · refine ⟨_, rfl, ?_⟩
      rw [if_neg (by decide)]
      exact no fun z => h0 z.1
  intro pb acc H1 hpb hs1 hn1 hacc
  rw [Int.toNat_natCast, hgl] at hacc
  have hlh1 := hs1 _ _ hlh
  have hd01 := hs1 _ _ hd0
  have hlt1 := hs1 _ _ hlt
  walk_at "go"
  have hacc0 : H1 pb = some (.lst ((((List.range L.hd.length).filter fun j => isPart L.toB.p (L.toB.st.getD j [])).map fun k : Nat => (k : Int)).map V.int)) := by rw [hn1, hacc]
  have hbh := beg_head L.toB
  rw [Ls.len] at hbh
  generalize (List.range L.hd.length).filter (fun j => isPart L.toB.p (L.toB.st.getD j [])) = bl at hacc0 hbh
  refine x_join (fun σ' H' => Same H H' ∧ ∃ (p3 : Addr) (ks : List Int) (v4 v5 : Option V), σ' = [some (.ref d), some (.int x), some (.ref G.lh), some (.ref p3), v4, v5] ∧ H' p3 = some (.lst (((k : Int) :: ks).map V.int))) (fun R hR => ?_) ?_
  · walk_at "go"
    rename_i pe H2 hpe hs2 hn2
    refine x_eqL (ms := []) (SqL.of (hs2 _ _ hacc0)) (SqL.of hn2) ?_
    walk_at "go"
    cases bl with
    | cons j js =>
      rw [if_neg (by simp)]
      have hbh : L.toB.beg = some j := hbh
      unfold Bn.spot at hspot
      rw [hbh] at hspot
      cases hspot
      walk_at "go"
      exact hR _ _ ⟨hs1.trans hs2, pb, _, _, _, rfl, hs2 _ _ hacc0⟩
    | nil =>
      rw [if_pos (by simp)]
      have hbh : L.toB.beg = none := hbh
      unfold Bn.spot at hspot
      rw [hbh] at hspot
      have hspot : L.toB.emp.head?.map Int.toNat = some k := hspot
      have hlh2 := hs2 _ _ hlh1
      have s02 := hs1.trans hs2
      walk_at "go"
      refine x_lcR1K (fun i acc H' => PairL H' acc (L.toB.empP i)) (fun i acc H H' s h => h.mono s) ⟨by omega, by omega⟩ PairL.nil ?_ ?_
      · intro i acc2 H' hi hs' hacc2 NY NN hY hN
        rw [Int.toNat_natCast, hgl] at hi
        obtain ⟨a, ys, hix, hys, hpl⟩ := hget (s02.trans hs') hi
        have hlh' := hs' _ _ hlh2
        have hit : atI (L.tm.map V.int) (i : Int) = some (.int (L.tm.getD i 0)) := atI_nat (by
          have : i < L.tm.length := by
            have h1 : L.toB.tm.length = L.toB.st.length := hL.ok.bok.tl
            rw [Ls.len] at h1
            have h1 : L.tm.length = L.hd.length := h1
            omega
          rw [List.getElem?_map, List.getElem?_eq_getElem this, List.getD_eq_getElem?_getD, List.getElem?_eq_getElem this]
          rfl)
        have eE : (L.toB.st.getD i []).isEmpty = (L.hd.getD i []).isEmpty := by
          rw [Ls.getD]
          cases L.hd.getD i [] <;> rfl
        dsimp only [wipe]
        walk_at "go"
        refine ⟨rfl, ?_⟩
        walk_at "go"
        rename_i pe2 H5 hpe2 hs5 hn5
        refine x_eqNilP (hpl.mono (TupS.of hs5)) (hs5 _ _ hys) hn5 ?_
        have hd05 := hs5 _ _ (hs' _ _ (hs2 _ _ hd01))
        have hlt5 := hs5 _ _ (hs' _ _ (hs2 _ _ hlt1))
        walk_at "go"
        by_cases hc : (L.hd.getD i []).isEmpty = true
        · rw [if_pos hc]
          walk_at "go"
          rename_i t H6 ht hs6 hn6
          refine hY _ _ (hs5.trans hs6) ?_
          show PairL H6 _ (L.toB.empP (i + 1))
          rw [empP_succ, if_pos (by rw [eE]; exact hc)]
          exact (hacc2.mono (TupS.of (hs5.trans hs6))).snoc ⟨t, rfl, hn6⟩
        · rw [if_neg hc]
          refine hN _ hs5 ?_
          show PairL H5 _ (L.toB.empP (i + 1))
          rw [empP_succ, if_neg (by rw [eE]; exact hc), List.append_nil]
          exact hacc2.mono (TupS.of hs5)
      intro pc acc2 H3 hpc hs3 hn3 hacc2
      rw [Int.toNat_natCast, hgl, ← Ls.len] at hacc2
      walk_at "go"
      refine x_sortP (SqL.of hn3) hacc2 fun q1 ys H4 hq1 hs4 hn4 hys => ?_
      have hemp : L.toB.emp = (sortP (L.toB.empP L.toB.st.length)).map Prod.snd := rfl
      cases hso : sortP (L.toB.empP L.toB.st.length) with
      | nil => rw [hemp, hso] at hspot; cases hspot
      | cons e es =>
        rw [hso] at hys
        rw [hemp, hso] at hspot
        have hspot := Option.some.inj hspot
        have hspot : e.2.toNat = k := hspot
        obtain ⟨j, ej, _⟩ := emp_mem (show e.2 ∈ L.toB.emp by rw [hemp, hso]; exact List.mem_cons_self)
        have ek : e.2 = (k : Int) := by omega
        obtain ⟨y0, ys', rfl⟩ : ∃ y0 ys', ys = y0 :: ys' := by
          cases ys with
          | nil => exact absurd hys.1 (by simp)
          | cons a b => exact ⟨a, b, rfl⟩
        obtain ⟨t0, rfl, ht0⟩ := hys.2 0 y0 e rfl rfl
        have hat0 : atI (V.ref t0 :: ys') 0 = some (.ref t0) := atI_nat (j := 0) rfl
        have hat1 : atI [V.int e.1, V.int e.2] 1 = some (.int e.2) := rfl
        walk_at "go"
        rename_i p5 H5 hp5 hs5 hn5
        rw [ek] at hn5
        exact hR _ _ ⟨((s02.trans hs3).trans hs4).trans hs5, p5, [], _, _, rfl, hn5⟩
  intro σ' H2 ⟨hs2, p3, ks, v4, v5, hσ, hn2⟩
  subst hσ
  have hd02 := hs2 _ _ hd0
  have hnd := hL.nd
  have hnd1 := List.nodup_cons.mp hnd
  have hnd2 := List.nodup_cons.mp hnd1.2
  have hnd3 := List.nodup_cons.mp hnd2.2
  have hnd4 := List.nodup_cons.mp hnd3.2
  have akall : ak ∈ G.all := List.mem_cons_of_mem _ (List.mem_cons_of_mem _ (List.mem_cons_of_mem _ hakm))
  have nakd : ak ≠ d := fun z => hnd1.1 (by rw [← z]; exact akall)
  have ndnd : G.dn ≠ d := fun z => hnd1.1 (by rw [← z]; simp [LG.all])
  have nlhd : G.lh ≠ d := fun z => hnd1.1 (by rw [← z]; simp [LG.all])
  have nltd : G.lt ≠ d := fun z => hnd1.1 (by rw [← z]; simp [LG.all])
  have naklh : ak ≠ G.lh := fun z => hnd2.1 (by rw [← z]; exact List.mem_cons_of_mem _ (List.mem_cons_of_mem _ hakm))
  have naklt : ak ≠ G.lt := fun z => hnd3.1 (by rw [← z]; exact List.mem_cons_of_mem _ hakm)
  have nakdn : ak ≠ G.dn := fun z => hnd4.1 (by rw [← z]; exact hakm)
  have np3 : p3 ≠ d := fun z => by rw [z, hd02] at hn2; cases hn2
  have hat3 : atI (List.map V.int ((k : Int) :: ks)) 0 = some (.int (k : Int)) := atI_nat (j := 0) rfl
  have hat4 : atI (G.sa.map V.ref) (k : Int) = some (.ref ak) := atI_nat (by rw [List.getElem?_map, hak]; rfl)
  have hyl : ysk.length < sizeLine := small64 (by
    rw [hplk.1, ← Ls.lenK]
    have h3 := hL.ok.bok.p3
    have := (Bn.spot_lt hL.ok.bok hspot).2
    omega)
  walk_at "go"
  refine x_daS hd02 (v := .int L.sp) rfl ?_
  walk_at "go"
  refine x_dpA (kvs' := [(.inr "pages", .int L.p), (.inr "held", .ref G.lh), (.inr "times", .ref G.lt), (.inr "newest", .ref G.dn), (.inr "stamp", .int (L.sp + 1))]) hd02 rfl (fun H3 hO3 hI3 => ?_) (by show 5 ≤ 1000; decide)
  have hlh3 := hO3.at (hs2 _ _ hlh) (nin_of nlhd)
  have hysk3 := hO3.at (hs2 _ _ hysk) (nin_of nakd)
  have hdn3 := hO3.at (hs2 _ _ hdn) (nin_of ndnd)
  have hn23 := hO3.at hn2 (nin_of np3)
  dsimp only
  walk_at "go"
  rename_i pt H4 hpt hs4 hn4
  obtain ⟨H5, eH5⟩ : ∃ H5, upd H4 ak (.lst (ysk ++ [V.ref pt])) = H5 := ⟨_, rfl⟩
  rw [eH5]
  have k45 : ∀ {a : Addr} {o : HO}, a ≠ ak → H4 a = some o → H5 a = some o := fun {a o} n e => by
    rw [← eH5, upd_ne n]
    exact e
  have hak5 : H5 ak = some (.lst (ysk ++ [V.ref pt])) := by rw [← eH5, upd_same]
  have hI5 := k45 (Ne.symm nakd) (hs4 _ _ hI3)
  have hdn5 := k45 (Ne.symm nakdn) (hs4 _ _ hdn3)
  refine x_dgS hI5 (v := .int (L.sp + 1)) rfl ?_
  walk_at "go"
  refine x_dpI hdn5 (putK_I (n := x) (x := L.sp + 1)) (fun H6 hO6 hI6 => ?_) (kv_le hL.ok hsp)
  have k26 : ∀ {a : Addr} {o : HO}, a ≠ d → a ≠ ak → a ≠ G.dn → H a = some o → H6 a = some o := fun {a o} n1 n2 n3 e => hO6.at (k45 n2 (hs4 _ _ (hO3.at (hs2 _ _ e) (nin_of n1)))) (nin_of n3)
  have hpt3 : ∀ {a : Addr} {o : HO}, H3 a = some o → a ≠ pt := fun e z => by
    rw [z, hpt] at e
    cases e
  have hpt6 : H6 pt = some (.tup [.int x, .int (L.sp + 1)]) := hO6.at (k45 (Ne.symm (hpt3 hysk3)) hn4) (nin_of (Ne.symm (hpt3 hdn3)))
  have hOff : Off (d :: G.all) H H6 := fun a o na e => k26 (fun z => na (by rw [z]; exact List.mem_cons_self)) (fun z => na (by rw [z]; exact List.mem_cons_of_mem _ akall)) (fun z => na (by rw [z]; simp [LG.all])) e
  have hT : TupS H H6 := Off.tupsL hOff hL.notup
  have nlhdn : G.lh ≠ G.dn := fun z => hnd2.1 (by rw [z]; simp)
  have nltdn : G.lt ≠ G.dn := fun z => hnd3.1 (by rw [z]; simp)
  refine q (L.put k x) H6 hOff hT ⟨hO6.at hI5 (nin_of (Ne.symm ndnd)), k26 nlhd (Ne.symm naklh) nlhdn hlh, k26 nltd (Ne.symm naklt) nltdn hlt, hI6, ?_, fun i a s h1 h2 => ?_, hnd, hok'⟩ hB' rfl ?_
  · show G.sa.length = (L.hd.set k _).length
    rw [List.length_set]
    exact hgl
  · have h2 : (L.hd.set k (L.hd.getD k [] ++ [(x, L.sp + 1)]))[i]? = some s := h2
    by_cases hik : i = k
    · subst hik
      rw [hak] at h1
      cases h1
      rw [List.getElem?_set_self hk] at h2
      cases h2
      exact ⟨_, hO6.at hak5 (nin_of nakdn), (hplk.mono hT).snoc ⟨pt, rfl, hpt6⟩⟩
    · rw [List.getElem?_set_ne (fun z => hik z.symm)] at h2
      have ham := List.mem_of_getElem? h1
      have nd5 := hnd4.2
      have hxa : a ≠ ak := fun z => by
        subst z
        exact hik ((List.getElem?_inj (List.getElem?_eq_some_iff.mp h1).1 nd5).mp (h1.trans hak.symm))
      obtain ⟨ys, e, hp⟩ := hL.st i a s h1 h2
      exact ⟨ys, k26 (fun z => hnd1.1 (by rw [← z]; exact List.mem_cons_of_mem _ (List.mem_cons_of_mem _ (List.mem_cons_of_mem _ ham)))) hxa (fun z => hnd4.1 (by rw [← z]; exact ham)) e, hp.mono hT⟩
  · show (L.hd.set k _).length = L.hd.length
    rw [List.length_set]
/-! ### the model's clearing out, walked -/
def spCOut : Sp := fun vs H Q _ => ∃ (d : Addr) (G : LG) (L : Ls) (b' : Bn) (k : Nat) (m : Int), vs = [.ref d, .int (k : Int)] ∧ LsAt H d G L ∧ k < L.hd.length ∧ L.toB.clr k = some (b', m) ∧ L.sp ≤ 800 ∧
  ∀ L' G' H', Off (d :: G.all) H H' → TupS H H' → (∀ a ∈ G'.all, a ∈ G.all ∨ H a = none) → LsAt H' d G' L' → L'.toB = b' → L'.sp ≤ L.sp + 3 → Q (.int m) H'
theorem ok_cleared_out (T : Txt K mg) : FO P w K mg base 2 T.a__law_cleared_out T.fd__law_cleared_out ["_law_state", "_law_block"] spCOut := by
  have sc := sc__law_cleared_out
  refine T.F__law_cleared_out.okX sc (fun vs H Q E h => ?_) (fun cdv A outer s H vs Q E hr h => ?_)
  · obtain ⟨_, _, _, _, _, _, rfl, _⟩ := h
    rfl
  obtain ⟨d, G, L, b', k, m, rfl, hL, hk, he, hsp, q⟩ := h
  have hmvl : (L.toB.mv k).length ≤ 3 := by
    unfold Bn.mv
    have h1 := List.length_filterMap_le id (L.toB.st.getD k [])
    have hk' : k < L.toB.st.length := by rw [Ls.len]; exact hk
    have h2 := hL.ok.bok.sz _ (List.getElem_mem hk')
    have h3 := hL.ok.bok.p3
    rw [List.getD_eq_getElem?_getD, List.getElem?_eq_getElem hk'] at h1 ⊢
    have h1 : (List.filterMap id L.toB.st[k]).length ≤ (L.toB.st[k]).length := h1
    show (List.filterMap id L.toB.st[k]).length ≤ 3
    omega
  unfold Bn.clr at he
  cases hly : L.toB.lays (L.toB.mv k) with
  | none => rw [hly] at he; cases he
  | some bE =>
    rw [hly] at he
    cases he
    refine ⟨_, (pss_cons (ps_set (i := 2) sc.nd rfl (by first | exact Or.inl rfl | exact Or.inr rfl) (pe_callS (ok_live T) (hr.mono (by decide)) (by rfl) T.g__law_live T.k__law_live T.bd__law_live (passAt (takes_of rfl rfl rfl rfl)) (pa_cons (pv 0) (pa_cons (pv 1) pa_nil))))
      (pss_cons (ps_for (passes_of rfl) rfl (pi_list (pv 2)) (pg_name (i := 3) sc.nd rfl (by first | exact Or.inl rfl | exact Or.inr rfl)) (pss_one (ps_expr (pe_callS (ok_put T) (hr.mono (by decide)) (by rfl) T.g__law_put T.k__law_put T.bd__law_put (passAt (takes_of rfl rfl rfl rfl)) (pa_cons (pv 0) (pa_cons (pv 3) pa_nil))))))
      (pss_cons (ps_asg (pe_lst pa_nil) (pg_sub (pe_dget (hu_of hr) (pv 0) pe_str (fun _ _ => rfl)) (pv 1) set_list))
      (pss_cons (ps_augS (pe_dget (hu_of hr) (pv 0) pe_str (fun _ _ => rfl)) (pv 1) get_list pe_int ip_add set_list)
      (pss_one (ps_ret (pe_callB (cr_ulen) (by rfl) T.b_len bt_len (pa_cons (pv 2) pa_nil)))))))), ?_⟩
    walk_at "begin"
    walk_at "go"
    refine ⟨d, G, L, k, rfl, hL, hk, fun pm H1 hs1 hpm hn1 => ?_⟩
    walk_at "go"
    refine x_seq ?_
    walk_at "go"
    have hL1 := hL.mono hs1
    have hpmG : pm ∉ d :: G.all := fun mm => by
      have nn : ∀ a ∈ d :: G.all, H a ≠ none := fun a ha => by
        rcases List.mem_cons.mp ha with rfl | ha
        · rw [hL.d0]; intro z; cases z
        rcases List.mem_cons.mp ha with rfl | ha
        · rw [hL.lh]; intro z; cases z
        rcases List.mem_cons.mp ha with rfl | ha
        · rw [hL.lt]; intro z; cases z
        rcases List.mem_cons.mp ha with rfl | ha
        · rw [hL.dn]; intro z; cases z
        · obtain ⟨i, hi⟩ := List.mem_iff_getElem?.mp ha
          obtain ⟨ys, e, _⟩ := hL.st i a _ hi (List.getElem?_eq_getElem (hL.len ▸ (List.getElem?_eq_some_iff.mp hi).1))
          rw [e]
          intro z
          cases z
      exact nn pm mm hpm
    refine x_frL (SqL.of hn1) (fun i σ H' => ∃ (v3 : Option V) (Li : Ls), σ = [some (.ref d), some (.int (k : Int)), some (.ref pm), v3] ∧ Off (d :: G.all) H1 H' ∧ TupS H1 H' ∧ LsAt H' d G Li ∧ Li.toB.lays ((L.toB.mv k).drop i) = some bE ∧ Li.sp = L.sp + (i : Int) ∧ Li.hd.length = L.hd.length ∧ i ≤ 3) ⟨_, L, rfl, Off.refl, fun _ _ h => h, hL1, hly, by omega, rfl, by decide⟩ (fun i σ H' _ ⟨_, _, _, s, _⟩ => SqL.of (s _ _ hpmG hn1)) ?_ ?_
    · intro i x σ H2 hx ⟨v3, Li, hσ, hO2, hT2, hL2, hl2, hsi, hli, hi3⟩
      subst hσ
      rw [List.getElem?_map] at hx
      cases hg : (L.toB.mv k)[i]? with
      | none => rw [hg] at hx; cases hx
      | some n =>
        rw [hg] at hx
        cases hx
        have hil := (List.getElem?_eq_some_iff.mp hg).1
        have ed : (L.toB.mv k).drop i = n :: (L.toB.mv k).drop (i + 1) := by
          rw [List.drop_eq_getElem_cons hil]
          congr 1
          exact (List.getElem?_eq_some_iff.mp hg).2
        rw [ed] at hl2
        cases hbl : Li.toB.lay n with
        | none => rw [Bn.lays, hbl] at hl2; cases hl2
        | some b2 =>
          rw [Bn.lays, hbl] at hl2
          walk_at "go"
          refine ⟨d, G, Li, b2, n, rfl, hL2, hbl, by omega, fun L3 H3 hO3 hT3 hL3 hB3 hs3 hh3 => ?_⟩
          walk_at "go"
          exact ⟨_, L3, rfl, hO2.trans hO3, hT2.trans hT3, hL3, by rw [hB3]; exact hl2, by omega, by omega, by omega⟩
    · intro σ H2 ⟨v3, Li, hσ, hO2, hT2, hL2, hl2, hsi, hli, hi3⟩
      subst hσ
      rw [List.length_map, List.drop_length] at hl2
      have hl2 : Li.toB = bE := Option.some.inj hl2
      rw [List.length_map] at hsi hi3
      have hd0 := hL2.d0
      have hlh := hL2.lh
      have hlt := hL2.lt
      unfold lawK at hd0
      have hn2 : H2 pm = some (.lst ((L.toB.mv k).map V.int)) := hO2.at hn1 hpmG
      have hnd := hL2.nd
      have hnd1 := List.nodup_cons.mp hnd
      have hnd2 := List.nodup_cons.mp hnd1.2
      have hnd3 := List.nodup_cons.mp hnd2.2
      have hnd4 := List.nodup_cons.mp hnd3.2
      have nlhd : d ≠ G.lh := fun z => hnd1.1 (by rw [z]; simp [LG.all])
      have nltd : d ≠ G.lt := fun z => hnd1.1 (by rw [z]; simp [LG.all])
      have nlt : G.lt ≠ G.lh := fun z => hnd2.1 (by rw [← z]; simp)
      have nlnd : G.dn ≠ G.lh := fun z => hnd2.1 (by rw [← z]; simp)
      have nltn : G.dn ≠ G.lt := fun z => hnd3.1 (by rw [← z]; simp)
      have npl : pm ≠ G.lh := fun z => hpmG (by rw [z]; simp [LG.all])
      have npt : pm ≠ G.lt := fun z => hpmG (by rw [z]; simp [LG.all])
      have hkL : k < Li.hd.length := by omega
      have htl : Li.tm.length = Li.hd.length := by
        have h1 : Li.toB.tm.length = Li.toB.st.length := hL2.ok.bok.tl
        rw [Ls.len] at h1
        exact h1
      have hside1 : (k : Int) < ((G.sa.map V.ref).length : Int) := by rw [List.length_map, hL2.len]; omega
      have hside2 : (k : Int) < (Li.tm.length : Int) := by omega
      dsimp only
      walk_at "go"
      rename_i p0 H3 hp0 hs3 hn3 H4 hO4 hI4 H5 hO5 hI5
      rw [Int.toNat_natCast] at hI4 hI5
      obtain ⟨hW, hWok⟩ := wip_spec (L := Li) (k := k) hL2.ok
      have nn2 : ∀ a ∈ d :: G.all, H2 a ≠ none := fun a ha => by
        rcases List.mem_cons.mp ha with rfl | ha
        · rw [hL2.d0]; intro z; cases z
        rcases List.mem_cons.mp ha with rfl | ha
        · rw [hL2.lh]; intro z; cases z
        rcases List.mem_cons.mp ha with rfl | ha
        · rw [hL2.lt]; intro z; cases z
        rcases List.mem_cons.mp ha with rfl | ha
        · rw [hL2.dn]; intro z; cases z
        · obtain ⟨i, hi⟩ := List.mem_iff_getElem?.mp ha
          obtain ⟨ys, e, _⟩ := hL2.st i a _ hi (List.getElem?_eq_getElem (hL2.len ▸ (List.getElem?_eq_some_iff.mp hi).1))
          rw [e]
          intro z
          cases z
      have p0n : p0 ∉ d :: G.all := fun m => nn2 p0 m hp0
      have p0l : p0 ≠ G.lh := fun z => p0n (by rw [z]; simp [LG.all])
      have p0t : p0 ≠ G.lt := fun z => p0n (by rw [z]; simp [LG.all])
      have p0sa : p0 ∉ G.sa := fun m => p0n (by simp [LG.all, m])
      have sals : ∀ a ∈ G.sa, a ≠ G.lh ∧ a ≠ G.lt := fun a ha => ⟨fun z => hnd2.1 (by rw [← z]; simp [ha]), fun z => hnd3.1 (by rw [← z]; simp [ha])⟩
      have up : ∀ {a : Addr} {o : HO}, a ≠ G.lh → a ≠ G.lt → H3 a = some o → H5 a = some o := fun {a o} n1 n2 e => hO5.at (hO4.at e (nin_of n1)) (nin_of n2)
      have hOff : Off (d :: G.all) H H5 := fun a o na e => up (fun z => na (by rw [z]; simp [LG.all])) (fun z => na (by rw [z]; simp [LG.all])) (hs3 _ _ (hO2.at (hs1 _ _ e) na))
      have hT25 : TupS H2 H5 := fun a xs e => up (fun z => by rw [z, hlh] at e; cases e) (fun z => by rw [z, hlt] at e; cases e) (hs3 _ _ e)
      refine q (Li.wip k) ⟨G.lh, G.lt, G.dn, G.sa.set k p0⟩ H5 hOff (Off.tupsL hOff hL.notup) (fun a ha => ?_) ⟨up nlhd nltd (hs3 _ _ hd0), hO5.at (by rw [hI4, List.map_set]) (nin_of (Ne.symm nlt)), by rw [hI5, ← List.map_set]; rfl, up nlnd nltn (hs3 _ _ hL2.dn), ?_, fun i a s h1 h2 => ?_, ?_, hWok⟩ (by rw [hW, hl2]) (by show Li.sp ≤ _; omega)
      · rcases List.mem_cons.mp ha with rfl | ha
        · exact .inl (by simp [LG.all])
        rcases List.mem_cons.mp ha with rfl | ha
        · exact .inl (by simp [LG.all])
        rcases List.mem_cons.mp ha with rfl | ha
        · exact .inl (by simp [LG.all])
        rcases List.mem_or_eq_of_mem_set ha with ha | rfl
        · exact .inl (by simp [LG.all, ha])
        · right
          cases e : H a with
          | none => rfl
          | some o =>
            rw [hO2.at (hs1 _ _ e) p0n] at hp0
            cases hp0
      · show (G.sa.set k p0).length = (Li.hd.set k []).length
        rw [List.length_set, List.length_set]
        exact hL2.len
      · have h1 : (G.sa.set k p0)[i]? = some a := h1
        have h2 : (Li.hd.set k [])[i]? = some s := h2
        by_cases hik : i = k
        · subst hik
          rw [List.getElem?_set_self (by rw [hL2.len]; exact hkL)] at h1
          rw [List.getElem?_set_self hkL] at h2
          cases h1
          cases h2
          exact ⟨[], up p0l p0t hn3, PairL.nil⟩
        · rw [List.getElem?_set_ne (fun z => hik z.symm)] at h1 h2
          have hm := sals a (List.mem_of_getElem? h1)
          obtain ⟨ys, e, hp⟩ := hL2.st i a s h1 h2
          exact ⟨ys, up hm.1 hm.2 (hs3 _ _ e), hp.mono hT25⟩
      · show (d :: G.lh :: G.lt :: G.dn :: G.sa.set k p0).Nodup
        have ms : ∀ {a : Addr}, a ∈ G.sa.set k p0 → a ∈ G.sa ∨ a = p0 := fun m => List.mem_or_eq_of_mem_set m
        refine List.nodup_cons.mpr ⟨fun m => ?_, List.nodup_cons.mpr ⟨fun m => ?_, List.nodup_cons.mpr ⟨fun m => ?_, List.nodup_cons.mpr ⟨fun m => ?_, nodup_set hnd4.2 p0sa⟩⟩⟩⟩
        · simp only [List.mem_cons] at m
          rcases m with z | z | z | m
          · exact nlhd z
          · exact nltd z
          · exact hnd1.1 (by rw [z]; simp [LG.all])
          · rcases ms m with m | z
            · exact hnd1.1 (by simp [LG.all, m])
            · exact p0n (by rw [← z]; exact List.mem_cons_self)
        · simp only [List.mem_cons] at m
          rcases m with z | z | m
          · exact nlt z.symm
          · exact nlnd z.symm
          · rcases ms m with m | z
            · exact (sals _ m).1 rfl
            · exact p0l z.symm
        · simp only [List.mem_cons] at m
          rcases m with z | m
          · exact nltn z.symm
          · rcases ms m with m | z
            · exact (sals _ m).2 rfl
            · exact p0t z.symm
        · rcases ms m with m | z
          · exact hnd4.1 m
          · exact p0n (by rw [← z]; simp [LG.all])
/-! ### a new model -/
def newL (n : Nat) (p : Int) : Ls := ⟨p, List.replicate n [], List.replicate n 0, [], 0⟩
theorem newL_B (n : Nat) (p : Int) : (newL n p).toB = newB n p := by
  unfold newL Ls.toB newB
  dsimp only
  rw [List.map_replicate]
  rfl
theorem newL_ok {n : Nat} {p : Int} (hn : n ≤ 4) (h1 : 1 ≤ p) (h3 : p ≤ 3) : LsOk (newL n p) := by
  have hm : ∀ s ∈ (newL n p).hd, s = [] := fun s hs => (List.mem_replicate.mp hs).2
  refine ⟨by rw [newL_B]; exact BOk.newB hn h1 h3, fun s hs e he => ?_, fun s hs e he => ?_, fun x t h => (by cases h), ?_, Int.le_refl 0⟩
  · rw [hm s hs] at he; cases he
  · rw [hm s hs] at he; cases he
  · show ((List.replicate n ([] : List (Int × Int))).flatten.map (·.2)).Nodup
    rw [List.flatten_replicate_nil]
    exact List.nodup_nil
def spNew : Sp := fun vs H Q _ => ∃ (n : Nat) (p : Int), vs = [.int (n : Int), .int p] ∧ n ≤ 4 ∧ (1 ≤ p ∧ p ≤ 3) ∧ ∀ d G H', Same H H' → (∀ a ∈ d :: G.all, H a = none) → LsAt H' d G (newL n p) → Q (.ref d) H'
theorem ok_new (T : Txt K mg) : FO P w K mg base 1 T.a__law_new T.fd__law_new ["_law_blocks", "_law_pages"] spNew := by
  have sc := sc__law_new
  refine T.F__law_new.okX sc (fun vs H Q E h => ?_) (fun cdv A outer s H vs Q E hr h => ?_)
  · obtain ⟨_, _, rfl, _⟩ := h
    rfl
  obtain ⟨n, p, rfl, hn, hp, q⟩ := h
  refine ⟨_, (pss_one (ps_ret (pe_disp (pps_cons pe_str (pv 1) (pps_cons pe_str (pe_lc (own := [("_law_k", 2)]) (by rfl) sc.nd (pi_range1 (by rfl) T.b_range (pa_cons (pv 0) pa_nil)) (blkOk_by (own := [("_law_k", 2)]) (N := N__law_new) (sc := defScope s__law_new) (by decide +kernel)) (fun _ _ _ _ _ => (pg_name (i := 2) sc.nd rfl (by first | exact Or.inl rfl | exact Or.inr rfl))) (fun _ _ _ _ _ => pts_nil) (fun _ _ _ _ _ => (pe_lst pa_nil))) (pps_cons pe_str (pe_op op_uMul (pe_lst (pa_cons pe_int pa_nil)) (pv 0)) (pps_cons pe_str pe_dnewK (pps_cons pe_str pe_int pps_nil))))) rfl rfl (fun z => nomatch z) (by decide)))), ?_⟩
  walk_at "begin"
  walk_at "go"
  rename_i d H1 hd hs1 hd1
  refine x_lcRO [] (fun b hb => by cases hb) (fun Dr i acc H' => NewLs H1 Dr (List.replicate i []) acc H') (fun Dr i acc acc0 acc1 H' _ h => h.upd) ⟨by omega, by omega⟩ (fun Dr _ => NewLs.nil) ?_ ?_
  · intro Dr i acc H' hi hD hD' hO hA NY NN hY hN
    dsimp only [wipe]
    walk_at "go"
    refine ⟨rfl, ?_⟩
    walk_at "go"
    rename_i q1 H2 hq1 hs2 hn2
    refine hY _ _ (Off.of hs2) ?_
    show NewLs H1 Dr (List.replicate (i + 1) []) _ H2
    rw [List.replicate_succ']
    exact hA.snoc hs2 (same_none (fun b o e => hO b o (by simp) e) hq1) hq1 (by rw [hD']; intro z; cases z) hn2
  intro ls acc H2 hls hO2 hn2 ⟨sa, e1, e2, e3, e4, e5⟩
  subst e1
  have s12 : Same H1 H2 := fun b o e => hO2 b o (by simp) e
  walk_at "go"
  rename_i p0 H3 hp0 hs3 hn3 lt H4 hlt hs4 hn4 dn H5 hdn hs5 hn5
  rw [Int.toNat_natCast] at e2 e5 hn4
  have s25 := (hs3.trans hs4).trans hs5
  have hd5 : H5 d = some (.dK []) := s25 _ _ (s12 _ _ hd1)
  have ndn : ∀ {a : Addr} {o : HO}, H1 a = some o → a ≠ d → H5 a = some o := fun e _ => s25 _ _ (s12 _ _ e)
  have dH : H d = none := hd
  have lsd : ls ≠ d := fun z => by rw [z, hd1] at hls; cases hls
  have ltd : lt ≠ d := fun z => by rw [z, hs3 _ _ (s12 _ _ hd1)] at hlt; cases hlt
  have dnd : dn ≠ d := fun z => by rw [z, hs4 _ _ (hs3 _ _ (s12 _ _ hd1))] at hdn; cases hdn
  have sad : ∀ a ∈ sa, a ≠ d := fun a ha z => by
    have := (e4 a ha).2
    rw [z, hd1] at this
    cases this
  have hat : ∀ (i : Nat) a, sa[i]? = some a → H2 a = some (.lst []) := fun i a h => e5 i a [] h (by
    have hl := (List.getElem?_eq_some_iff.mp h).1
    rw [e2, List.length_replicate] at hl
    rw [List.getElem?_replicate, if_pos hl])
  have sat : ∀ a ∈ sa, H2 a = some (.lst []) := fun a ha => by
    obtain ⟨i, hi⟩ := List.mem_iff_getElem?.mp ha
    exact hat i a hi
  refine x_dspK (kvs' := lawK (newL n p) ⟨ls, lt, dn, sa⟩) (lawK (newL n p) ⟨ls, lt, dn, sa⟩) hd5 rfl (by show 5 ≤ 15; decide) rfl fun H6 hO6 hI6 => ?_
  have up : ∀ {a : Addr} {o : HO}, a ≠ d → H5 a = some o → H6 a = some o := fun n e => hO6.at e (nin_of n)
  refine q d ⟨ls, lt, dn, sa⟩ H6 (Off.same1 (((hs1.trans s12).trans s25)) hO6 ?_) (fun a ha => ?_) ⟨hI6, up lsd (s25 _ _ hn2), up ltd (by rw [hs5 _ _ hn4]; show _ = some (HO.lst ((List.replicate n (0 : Int)).map V.int)); rw [List.map_replicate]), up dnd hn5, ?_, fun i a s h1 h2 => ?_, ?_, newL_ok hn hp.1 hp.2⟩
  · exact dH
  · rcases List.mem_cons.mp ha with rfl | ha
    · exact dH
    rcases List.mem_cons.mp ha with rfl | ha
    · exact same_none hs1 hls
    rcases List.mem_cons.mp ha with rfl | ha
    · exact same_none ((hs1.trans s12).trans hs3) hlt
    rcases List.mem_cons.mp ha with rfl | ha
    · exact same_none (((hs1.trans s12).trans hs3).trans hs4) hdn
    · exact same_none hs1 (e4 a ha).2
  · show sa.length = (List.replicate n []).length
    rw [e2, List.length_replicate, List.length_replicate]
  · have hs : s = [] := (List.mem_replicate.mp (List.mem_of_getElem? h2)).2
    rw [hs]
    exact ⟨[], up (sad a (List.mem_of_getElem? h1)) (s25 _ _ (hat i a h1)), PairL.nil⟩
  · show (d :: ls :: lt :: dn :: sa).Nodup
    refine List.nodup_cons.mpr ⟨fun m => ?_, List.nodup_cons.mpr ⟨fun m => ?_, List.nodup_cons.mpr ⟨fun m => ?_, List.nodup_cons.mpr ⟨fun m => ?_, e3⟩⟩⟩⟩
    · simp only [List.mem_cons] at m
      rcases m with z | z | z | m
      · exact lsd z.symm
      · exact ltd z.symm
      · exact dnd z.symm
      · exact sad d m rfl
    · simp only [List.mem_cons] at m
      rcases m with z | z | m
      · rw [← z, hs3 _ _ hn2] at hlt; cases hlt
      · rw [← z, hs4 _ _ (hs3 _ _ hn2)] at hdn; cases hdn
      · exact (e4 _ m).1 rfl
    · simp only [List.mem_cons] at m
      rcases m with z | m
      · rw [← z, hn4] at hdn; cases hdn
      · rw [hs3 _ _ (sat _ m)] at hlt; cases hlt
    · rw [hs4 _ _ (hs3 _ _ (sat _ m))] at hdn; cases hdn
/-! ### benches: nothing is ever stuck -/
theorem cnt_set {α : Type} (f : α → Bool) : ∀ (l : List α) (k : Nat) (t : α) (hk : k < l.length), ((l.set k t).filter f).length + (if f l[k] = true then 1 else 0) = (l.filter f).length + (if f t = true then 1 else 0)
  | [], k, t, h => by simp at h
  | y :: l, 0, t, _ => by
    show ((t :: l).filter f).length + (if f y = true then 1 else 0) = ((y :: l).filter f).length + _
    rw [List.filter_cons, List.filter_cons]
    by_cases h1 : f t = true <;> by_cases h2 : f y = true <;> simp [h1, h2]
  | y :: l, k + 1, t, h => by
    have hk' : k < l.length := by simpa using h
    have ih := cnt_set f l k t hk'
    show ((y :: l.set k t).filter f).length + (if f l[k] = true then 1 else 0) = ((y :: l).filter f).length + _
    rw [List.filter_cons, List.filter_cons]
    by_cases h2 : f y = true
    · rw [if_pos h2, if_pos h2, List.length_cons, List.length_cons]
      omega
    · rw [if_neg h2, if_neg h2]
      exact ih
theorem len_set {α : Type} : ∀ (l : List (List α)) (k : Nat) (t : List α) (hk : k < l.length), (l.set k t).flatten.length + l[k].length = l.flatten.length + t.length
  | [], k, t, h => by simp at h
  | y :: l, 0, t, _ => by
    show (t ++ l.flatten).length + y.length = (y ++ l.flatten).length + t.length
    rw [List.length_append, List.length_append]
    omega
  | y :: l, k + 1, t, h => by
    have hk' : k < l.length := by simpa using h
    have ih := len_set l k t hk'
    show (y ++ (l.set k t).flatten).length + l[k].length = (y ++ l.flatten).length + t.length
    rw [List.length_append, List.length_append]
    omega
theorem rng_map {α : Type} (l : List α) (x : α) : (List.range l.length).map (fun k => l.getD k x) = l := by
  refine List.ext_getElem (by simp) fun i h1 h2 => ?_
  rw [List.getElem_map, List.getElem_range, List.getD_eq_getElem?_getD, List.getElem?_eq_getElem h2]
  rfl
theorem filt_rng {α : Type} (f : α → Bool) (l : List α) (x : α) : ((List.range l.length).filter fun k => f (l.getD k x)).length = (l.filter f).length := by
  have := congrArg (fun l : List α => (l.filter f).length) (rng_map l x)
  have this : ((List.map (fun k => l.getD k x) (List.range l.length)).filter f).length = (l.filter f).length := this
  rw [List.filter_map, List.length_map] at this
  exact this
def Bn.nE (b : Bn) : Nat := (b.st.filter fun s => s.isEmpty).length
def Bn.tot (b : Bn) : Nat := b.st.flatten.length
def Bn.lv (b : Bn) : List Int := b.st.flatten.filterMap id
theorem emp_len (b : Bn) : b.emp.length = b.nE := by
  unfold Bn.emp
  rw [List.length_map, (sortP_perm _).length_eq]
  unfold Bn.empP
  rw [List.length_map]
  exact filt_rng (fun s : List (Option Int) => s.isEmpty) b.st []
theorem beg_isSome (b : Bn) : b.beg.isSome = b.st.any (isPart b.p) := List.findIdx?_isSome
structure BInv (n : Nat) (p : Int) (s : List Int) (b : Bn) : Prop where
  ok : BOk b
  bn : b.st.length = n
  bp : b.p = p
  e1 : 1 ≤ b.nE
  nd : b.lv.Nodup
  sub : ∀ x ∈ b.lv, x ∈ s
theorem kill_lv (x : Int) : ∀ st : List (List (Option Int)), ((st.map (killS x)).flatten.filterMap id).Sublist (st.flatten.filterMap id)
  | [] => List.Sublist.refl _
  | s :: st => by
    show ((killS x s ++ (st.map (killS x)).flatten).filterMap id).Sublist ((s ++ st.flatten).filterMap id)
    rw [List.filterMap_append, List.filterMap_append]
    refine List.Sublist.append ?_ (kill_lv x st)
    clear st
    induction s with
    | nil => exact List.Sublist.refl _
    | cons y s ih =>
      rw [killS_cons]
      by_cases h : y = some x
      · rw [if_pos h]
        cases y with
        | none => cases h
        | some z => exact List.Sublist.cons z (List.Sublist.refl _)
      · rw [if_neg h]
        cases y with
        | none => exact ih
        | some z => exact List.Sublist.cons₂ z ih
theorem kill_not {x : Int} {st : List (List (Option Int))} (h : (st.flatten.filterMap id).Nodup) : x ∉ (st.map (killS x)).flatten.filterMap id := fun m => by
  obtain ⟨o, ho, e⟩ := List.mem_filterMap.mp m
  have e : o = some x := e
  subst e
  obtain ⟨t, ht, hot⟩ := List.mem_flatten.mp ho
  obtain ⟨s, hs, rfl⟩ := List.mem_map.mp ht
  have nds : (s.filterMap id).Nodup := List.Nodup.sublist ((sub_flat hs).filterMap id) h
  rw [killS_map] at hot
  · obtain ⟨o, _, e⟩ := List.mem_map.mp hot
    by_cases z : o = some x
    · rw [if_pos z] at e
      cases e
    · rw [if_neg z] at e
      exact z e
  · have nds := List.pairwise_filterMap.mp nds
    exact nds.imp fun {a b} hab ⟨z1, z2⟩ => hab x z1 x z2 rfl
theorem app_lv {b : Bn} {k : Nat} {x : Int} (hk : k < b.st.length) : ((b.app k x).lv).Perm (x :: b.lv) := by
  have := (set_perm (some x) b.st k hk).filterMap id
  exact this
theorem lay_of {n : Nat} {p : Int} {s : List Int} {b : Bn} {x : Int} {k : Nat} (hok : BOk b) (hs : b.spot = some k) (hnd : b.lv.Nodup) (hsub : ∀ y ∈ b.lv, y ∈ s) (hx : x ∈ s) : ∃ b', b.lay x = some b' ∧ BOk b' ∧ b'.st.length = b.st.length ∧ b'.p = b.p ∧ b'.lv.Nodup ∧ (∀ y ∈ b'.lv, y ∈ s) ∧ b'.tot = b.tot + 1 ∧
    (∀ i, ((b'.st.getD i []).length = if i = k then (b.st.getD i []).length + 1 else (b.st.getD i []).length)) ∧ b'.nE + (if (b.st.getD k []).isEmpty = true then 1 else 0) = b.nE := by
  have hsk : (b.kill x).spot = some k := by rw [kill_spot]; exact hs
  have hlay : b.lay x = some ((b.kill x).app k x) := by
    unfold Bn.lay
    rw [hsk]
    rfl
  obtain ⟨h1, h2, h3⟩ := hok.lay hlay
  have hkl := (Bn.spot_lt hok hs).1
  have hkk : k < (b.kill x).st.length := by
    show k < (b.st.map _).length
    rw [List.length_map]
    exact hkl
  have hkn : (b.kill x).lv.Nodup := List.Nodup.sublist (kill_lv x b.st) hnd
  have hpm := app_lv (b := b.kill x) (x := x) hkk
  have ekk : ((b.kill x).st.getD k []) = (b.kill x).st[k] := by
    rw [List.getD_eq_getElem?_getD, List.getElem?_eq_getElem hkk]
    rfl
  refine ⟨_, hlay, h1, h2, h3, ?_, fun y hy => ?_, ?_, fun i => ?_, ?_⟩
  · exact hpm.nodup_iff.mpr (List.nodup_cons.mpr ⟨kill_not hnd, hkn⟩)
  · rcases List.mem_cons.mp (hpm.mem_iff.mp hy) with rfl | hy
    · exact hx
    · exact hsub y ((kill_lv x b.st).subset hy)
  · have e := len_set (b.kill x).st k ((b.kill x).st.getD k [] ++ [some x]) hkk
    have e2 : (b.kill x).st.flatten.length = b.st.flatten.length := by
      show (b.st.map (killS x)).flatten.length = _
      rw [List.length_flatten, List.length_flatten, List.map_map]
      congr 1
      exact List.map_congr_left fun t _ => killS_len x t
    rw [List.length_append, List.length_singleton, ekk, e2] at e
    show ((b.kill x).st.set k _).flatten.length = b.st.flatten.length + 1
    rw [ekk]
    omega
  · show (((b.kill x).st.set k ((b.kill x).st.getD k [] ++ [some x])).getD i []).length = _
    by_cases hi : i = k
    · subst hi
      rw [if_pos rfl, List.getD_eq_getElem?_getD, List.getElem?_set_self hkk]
      show (_ ++ [some x]).length = _
      rw [List.length_append, Bn.kill_get]
      rfl
    · rw [if_neg hi, List.getD_eq_getElem?_getD, List.getElem?_set_ne (fun z => hi z.symm), ← List.getD_eq_getElem?_getD, Bn.kill_get]
  · have e := cnt_set (fun t : List (Option Int) => t.isEmpty) (b.kill x).st k ((b.kill x).st.getD k [] ++ [some x]) hkk
    have e3 : ((b.kill x).st.filter fun t => t.isEmpty).length = b.nE := by
      show ((b.st.map (killS x)).filter fun t => t.isEmpty).length = _
      rw [List.filter_map, List.length_map]
      unfold Bn.nE
      congr 1
      refine List.filter_congr fun t _ => ?_
      have := killS_len x t
      show (killS x t).isEmpty = t.isEmpty
      cases h1 : killS x t <;> cases h2 : t <;> rw [h1, h2] at this <;> first | rfl | cases this
    have e4 : (((b.kill x).st.getD k [] ++ [some x]).isEmpty) = false := by
      cases (b.kill x).st.getD k [] <;> rfl
    have e5 : ((b.kill x).st[k]).isEmpty = (b.st.getD k []).isEmpty := by
      rw [← ekk]
      have := Bn.kill_get b x k
      cases h1 : (b.kill x).st.getD k [] <;> cases h2 : b.st.getD k [] <;> rw [h1, h2] at this <;> first | rfl | cases this
    rw [e3, e4, e5] at e
    have e : ((b.kill x).app k x).nE + (if (b.st.getD k []).isEmpty = true then 1 else 0) = b.nE + (if false = true then 1 else 0) := e
    rw [if_neg (show ¬ (false = true) by decide), Nat.add_zero] at e
    exact e
theorem rdy_eq (b : Bn) : b.rdy = (decide (1 < b.nE) || (decide (b.nE = 1) && b.st.any (isPart b.p))) := by
  unfold Bn.rdy
  rw [emp_len, beg_isSome]
/-- not ready: one block is clear, all others are full -/
theorem not_rdy {n : Nat} {p : Int} {s : List Int} {b : Bn} (h : BInv n p s b) (hr : b.rdy = false) : b.nE = 1 ∧ ∀ t ∈ b.st, t = [] ∨ (t.length : Int) = p := by
  rw [rdy_eq] at hr
  have e1 := h.e1
  obtain ⟨h1, h2⟩ := Bool.or_eq_false_iff.mp hr
  have h1 := of_decide_eq_false h1
  have e : b.nE = 1 := by omega
  rw [decide_eq_true e, Bool.true_and] at h2
  refine ⟨e, fun t ht => ?_⟩
  have hp : isPart b.p t = false := by
    have := List.any_eq_false.mp h2 t ht
    simpa using this
  have hp := of_decide_eq_false hp
  have hsz := h.ok.sz t ht
  rw [h.bp] at hsz hp
  cases t with
  | nil => exact .inl rfl
  | cons y t =>
    right
    rw [List.length_cons] at hp hsz ⊢
    omega
theorem sh_rdy {n : Nat} {p : Int} {s : List Int} {b : Bn} (h : BInv n p s b) : b.shQ = !b.rdy := by
  have e1 := h.e1
  have hfe : decide ((b.st.filter (isPart b.p)).length = 0) = !(b.st.any (isPart b.p)) := by
    cases ha : b.st.any (isPart b.p) with
    | true =>
      obtain ⟨t, ht, hp⟩ := List.any_eq_true.mp ha
      have : t ∈ b.st.filter (isPart b.p) := List.mem_filter.mpr ⟨ht, hp⟩
      have := List.length_pos_of_mem this
      exact decide_eq_false (by omega)
    | false =>
      have : b.st.filter (isPart b.p) = [] := List.filter_eq_nil_iff.mpr fun t ht => by
        have := List.any_eq_false.mp ha t ht
        simpa using this
      rw [this]
      rfl
  unfold Bn.shQ
  rw [hfe, rdy_eq]
  show (decide (¬ 1 < b.nE) && _) = _
  by_cases h1 : 1 < b.nE
  · rw [decide_eq_false (fun z => z h1), decide_eq_true h1]
    rfl
  · rw [decide_eq_true h1, decide_eq_false h1, decide_eq_true (show b.nE = 1 by omega)]
    simp
theorem lay_ok {n : Nat} {p : Int} {s : List Int} {b : Bn} {x : Int} (h : BInv n p s b) (hr : b.rdy = true) (hx : x ∈ s) : ∃ b', b.lay x = some b' ∧ BInv n p s b' ∧ b'.tot = b.tot + 1 := by
  have hre := hr
  rw [rdy_eq] at hre
  have hsp : ∃ k, b.spot = some k ∧ ((b.st.getD k []).isEmpty = true → 1 < b.nE) := by
    unfold Bn.spot
    cases hb : b.beg with
    | some k =>
      refine ⟨k, rfl, fun he => ?_⟩
      obtain ⟨hk, hp, _⟩ := Bn.beg_some hb
      have hp := of_decide_eq_true hp
      rw [List.getD_eq_getElem?_getD, List.getElem?_eq_getElem hk] at he
      have he : b.st[k].isEmpty = true := he
      cases hc : b.st[k] with
      | nil => rw [hc] at hp; have := hp.1; simp at this
      | cons y t => rw [hc] at he; cases he
    | none =>
      have hany : b.st.any (isPart b.p) = false := by rw [← beg_isSome, hb]; rfl
      rw [hany, Bool.and_false, Bool.or_false] at hre
      have h1 := of_decide_eq_true hre
      have hl : 1 < b.emp.length := by rw [emp_len]; exact h1
      cases he : b.emp with
      | nil => rw [he] at hl; simp at hl
      | cons e es => exact ⟨e.toNat, rfl, fun _ => h1⟩
  obtain ⟨k, hs, hE⟩ := hsp
  obtain ⟨b', h1, h2, h3, h4, h5, h6, h7, h8, h9⟩ := lay_of (n := n) (p := p) h.ok hs h.nd h.sub hx
  refine ⟨b', h1, ⟨h2, h3.trans h.bn, h4.trans h.bp, ?_, h5, h6⟩, h7⟩
  have e1 := h.e1
  by_cases he : (b.st.getD k []).isEmpty = true
  · rw [if_pos he] at h9
    have := hE he
    omega
  · rw [if_neg he] at h9
    omega
/-- on the way through a clearing out: j pages are in the block e, all other blocks are full -/
structure BMid (n : Nat) (p : Int) (s : List Int) (e j : Nat) (b : Bn) : Prop where
  ok : BOk b
  bn : b.st.length = n
  bp : b.p = p
  en : e < n
  le : (b.st.getD e []).length = j
  oth : ∀ i, i ≠ e → i < n → ((b.st.getD i []).length : Int) = p
  nd : b.lv.Nodup
  sub : ∀ x ∈ b.lv, x ∈ s
  jp : (j : Int) < p
  cE : b.nE = if j = 0 then 1 else 0
theorem getD_at {b : Bn} {i : Nat} (hi : i < b.st.length) : b.st.getD i [] = b.st[i] := by
  rw [List.getD_eq_getElem?_getD, List.getElem?_eq_getElem hi]
  rfl
theorem BMid.spot {n : Nat} {p : Int} {s : List Int} {e j : Nat} {b : Bn} (h : BMid n p s e j b) : b.spot = some e := by
  have hp1 := h.ok.p1
  rw [h.bp] at hp1
  unfold Bn.spot
  cases hb : b.beg with
  | some i =>
    obtain ⟨hi, hp, _⟩ := Bn.beg_some hb
    have hp := of_decide_eq_true hp
    by_cases hie : i = e
    · rw [hie]
    · have := h.oth i hie (h.bn ▸ hi)
      rw [getD_at hi] at this
      rw [h.bp] at hp
      omega
  | none =>
    have hj : j = 0 := by
      have hen : e < b.st.length := h.bn.symm ▸ h.en
      have := Bn.beg_none hb b.st[e] (List.getElem_mem hen)
      have := of_decide_eq_false this
      have hl := h.le
      rw [getD_at hen] at hl
      have hjp := h.jp
      rw [h.bp] at this
      omega
    have hl : b.emp.length = 1 := by rw [emp_len, h.cE, if_pos hj]
    cases he : b.emp with
    | nil => rw [he] at hl; cases hl
    | cons z zs =>
      obtain ⟨i, hz, hi, hie⟩ := emp_mem (show z ∈ b.emp by rw [he]; exact List.mem_cons_self)
      have : i = e := by
        by_cases hne : i = e
        · exact hne
        · have := h.oth i hne (h.bn ▸ hi)
          rw [hie] at this
          have this : (0 : Int) = p := this
          omega
      show some z.toNat = some e
      rw [hz, this, Int.toNat_natCast]
theorem BMid.lays {n : Nat} {p : Int} {s : List Int} {e : Nat} : ∀ (xs : List Int) (j : Nat) (b : Bn), BMid n p s e j b → (∀ x ∈ xs, x ∈ s) → ((j + xs.length : Nat) : Int) < p → ∃ b', b.lays xs = some b' ∧ BMid n p s e (j + xs.length) b' ∧ b'.tot = b.tot + xs.length
  | [], j, b, h, _, _ => ⟨b, rfl, h, rfl⟩
  | x :: xs, j, b, h, hx, hj => by
    rw [List.length_cons] at hj
    obtain ⟨b1, h1, h2, h3, h4, h5, h6, h7, h8, h9⟩ := lay_of (n := n) (p := p) h.ok h.spot h.nd h.sub (hx x List.mem_cons_self)
    have hm : BMid n p s e (j + 1) b1 := by
      refine ⟨h2, h3.trans h.bn, h4.trans h.bp, h.en, ?_, fun i hi hin => ?_, h5, h6, by omega, ?_⟩
      · rw [h8, if_pos rfl, h.le]
      · rw [h8, if_neg hi]
        exact h.oth i hi hin
      · rw [if_neg (by omega)]
        rw [h.cE] at h9
        have hl := h.le
        by_cases hj0 : j = 0
        · rw [hj0] at hl
          have : (b.st.getD e []).isEmpty = true := by
            cases hc : b.st.getD e [] with
            | nil => rfl
            | cons y t => rw [hc] at hl; cases hl
          rw [if_pos this, if_pos hj0] at h9
          omega
        · have : ¬ (b.st.getD e []).isEmpty = true := fun z => by
            cases hc : b.st.getD e [] with
            | nil => rw [hc] at hl; exact hj0 hl.symm
            | cons y t => rw [hc] at z; cases z
          rw [if_neg this, if_neg hj0] at h9
          omega
    obtain ⟨b', g1, g2, g3⟩ := BMid.lays xs (j + 1) b1 hm (fun y hy => hx y (List.mem_cons_of_mem _ hy)) (by omega)
    refine ⟨b', ?_, ?_, ?_⟩
    · rw [Bn.lays, h1]
      exact g1
    · rw [List.length_cons, show j + (xs.length + 1) = j + 1 + xs.length by omega]
      exact g2
    · rw [g3, h7, List.length_cons]
      omega
theorem clr_ok {n : Nat} {p : Int} {s : List Int} {b : Bn} {k : Nat} (h : BInv n p s b) (hr : b.rdy = false) (hk : k ∈ b.chs) : ∃ b' m, b.clr k = some (b', m) ∧ BInv n p s b' ∧ b'.rdy = true ∧ b'.tot + 1 ≤ b.tot := by
  obtain ⟨hE, hall⟩ := not_rdy h hr
  obtain ⟨hkr, hch⟩ := List.mem_filter.mp hk
  have hkl := List.mem_range.mp hkr
  unfold Bn.isCh at hch
  obtain ⟨hc1, hc2⟩ := Bool.and_eq_true_iff.mp hch
  have hc1 := of_decide_eq_true hc1
  rw [h.bp] at hc1
  have hp1 := h.ok.p1
  rw [h.bp] at hp1
  -- the clear block
  obtain ⟨z, hz⟩ : ∃ z, z ∈ b.emp := by
    have : 0 < b.emp.length := by rw [emp_len, hE]; decide
    exact ⟨_, List.getElem_mem this⟩
  obtain ⟨e, rfl, hel, hee⟩ := emp_mem hz
  have hke : k ≠ e := fun y => by
    rw [y, hee] at hc1
    have hc1 : (0 : Int) = p := hc1
    omega
  have huniq : ∀ i, i ≠ e → i < n → ((b.st.getD i []).length : Int) = p := fun i hi hin => by
    have hib : i < b.st.length := h.bn.symm ▸ hin
    rcases hall b.st[i] (List.getElem_mem hib) with h0 | h1
    · exfalso
      have e2 := cnt_set (fun t : List (Option Int) => t.isEmpty) b.st i [none] hib
      have e3 := cnt_set (fun t : List (Option Int) => t.isEmpty) (b.st.set i [none]) e [none] (by rw [List.length_set]; exact hel)
      have a1 : (b.st[i]).isEmpty = true := by rw [h0]; rfl
      have a2 : ((b.st.set i [none])[e]'(by rw [List.length_set]; exact hel)).isEmpty = true := by
        have : (b.st.set i [none])[e]'(by rw [List.length_set]; exact hel) = b.st[e] := List.getElem_set_ne hi _
        rw [this]
        have hee2 := hee
        rw [getD_at hel] at hee2
        rw [hee2]
        rfl
      rw [a1, if_pos rfl] at e2
      rw [a2, if_pos rfl] at e3
      have hE' : (b.st.filter fun s => s.isEmpty).length = 1 := hE
      rw [hE'] at e2
      have e2' : ((b.st.set i [none]).filter fun t => t.isEmpty).length + 1 = 1 + 0 := e2
      have e3' : (((b.st.set i [none]).set e [none]).filter fun t => t.isEmpty).length + 1 = ((b.st.set i [none]).filter fun t => t.isEmpty).length + 0 := e3
      omega
    · rw [getD_at hib]
      exact h1
  have hmv : ((b.mv k).length : Int) < p := by
    have := fm_lt (id : Option Int → Option Int) (b.st.getD k [])
    rw [List.map_id, hc2] at this
    have := of_decide_eq_true this
    rw [hc1] at this
    exact this
  have hmid : BMid n p s e 0 b := ⟨h.ok, h.bn, h.bp, h.bn ▸ hel, by rw [hee]; rfl, huniq, h.nd, h.sub, by omega, by rw [hE]; rfl⟩
  have hms : ∀ x ∈ b.mv k, x ∈ s := fun x hx => h.sub x (by
    unfold Bn.mv at hx
    rw [getD_at hkl] at hx
    exact ((sub_flat (List.getElem_mem hkl)).filterMap id).subset hx)
  obtain ⟨b1, g1, g2, g3⟩ := hmid.lays (b.mv k) 0 b hms (by omega)
  rw [Nat.zero_add] at g2
  have hk1 : k < b1.st.length := by rw [g2.bn, ← h.bn]; exact hkl
  have he1 : e < b1.st.length := by rw [g2.bn, ← h.bn]; exact hel
  have hkp : ((b1.st.getD k []).length : Int) = p := g2.oth k hke (h.bn ▸ hkl)
  have hkne : ¬ (b1.st[k]).isEmpty = true := fun y => by
    rw [getD_at hk1] at hkp
    cases hc : b1.st[k] with
    | nil => rw [hc] at hkp; have hkp : (0 : Int) = p := hkp; omega
    | cons a t => rw [hc] at y; cases y
  have cE := cnt_set (fun t : List (Option Int) => t.isEmpty) b1.st k [] hk1
  have cE : (b1.wip k).nE + (if (b1.st[k]).isEmpty = true then 1 else 0) = b1.nE + 1 := cE
  rw [if_neg hkne] at cE
  have cT := len_set b1.st k [] hk1
  have cT : (b1.wip k).tot + (b1.st[k]).length = b1.tot + 0 := cT
  rw [getD_at hk1] at hkp
  have hcl : b.clr k = some (b1.wip k, ((b.mv k).length : Int)) := by
    unfold Bn.clr
    rw [g1]
    rfl
  have hsub : (b1.wip k).lv.Sublist b1.lv := by
    show ((b1.st.set k []).flatten.filterMap id).Sublist (b1.st.flatten.filterMap id)
    refine List.Sublist.filterMap id ?_
    have sl : ∀ (l : List (List (Option Int))) (k : Nat), (l.set k []).flatten.Sublist l.flatten := by
      intro l
      induction l with
      | nil => intro k; exact List.Sublist.refl _
      | cons s l ih =>
        intro k
        cases k with
        | zero => exact List.sublist_append_right _ _
        | succ k => exact List.Sublist.append_left (ih k) s
    exact sl b1.st k
  refine ⟨_, _, hcl, ⟨g2.ok.wip, ?_, g2.bp, by omega, List.Nodup.sublist hsub g2.nd, fun x hx => g2.sub x (hsub.subset hx)⟩, ?_, by omega⟩
  · show (b1.st.set k []).length = n
    rw [List.length_set]
    exact g2.bn
  · rw [rdy_eq]
    have hcE := g2.cE
    by_cases hm0 : (b.mv k).length = 0
    · rw [if_pos hm0] at hcE
      rw [decide_eq_true (show 1 < (b1.wip k).nE by omega)]
      rfl
    · rw [if_neg hm0] at hcE
      rw [decide_eq_true (show (b1.wip k).nE = 1 by omega), Bool.true_and]
      have : (b1.wip k).st.any (isPart (b1.wip k).p) = true := by
        refine List.any_eq_true.mpr ⟨b1.st[e], ?_, ?_⟩
        · show b1.st[e] ∈ b1.st.set k []
          have : (b1.st.set k [])[e]'(by rw [List.length_set]; exact he1) = b1.st[e] := List.getElem_set_ne hke _
          rw [← this]
          exact List.getElem_mem _
        · have hle := g2.le
          rw [getD_at he1] at hle
          refine decide_eq_true ⟨by omega, ?_⟩
          show (b1.st[e].length : Int) < b1.p
          rw [g2.bp]
          have := g2.jp
          omega
      rw [this, Bool.or_true]
/-! ### the least of all ways -/
theorem flat_full {p : Int} : ∀ st : List (List (Option Int)), (∀ t ∈ st, t = [] ∨ (t.length : Int) = p) → 1 ≤ p → (st.flatten.length : Int) + ((st.filter fun s => s.isEmpty).length : Int) * p = (st.length : Int) * p
  | [], _, _ => by simp
  | t :: st, h, hp => by
    have ih := flat_full st (fun u hu => h u (List.mem_cons_of_mem _ hu)) hp
    have e1 : (((t :: st).flatten.length : Nat) : Int) = (t.length : Int) + (st.flatten.length : Int) := by
      rw [List.flatten_cons, List.length_append]
      omega
    have e2 : (((t :: st).length : Nat) : Int) * p = (st.length : Int) * p + p := by
      rw [List.length_cons, Int.natCast_add, Int.add_mul]
      omega
    rw [e1, e2, List.filter_cons]
    rcases h t List.mem_cons_self with rfl | ht
    · rw [if_pos (show ([] : List (Option Int)).isEmpty = true from rfl), List.length_cons, Int.natCast_add, Int.add_mul]
      show ((0 : Nat) : Int) + _ + _ = _
      omega
    · have : ¬ t.isEmpty = true := fun z => by
        cases t with
        | nil => have ht : (0 : Int) = p := ht; omega
        | cons a t => cases z
      rw [if_neg this]
      omega
theorem fm_all {α : Type} : ∀ l : List (Option α), none ∉ l → (l.filterMap id).length = l.length
  | [], _ => rfl
  | none :: l, h => absurd List.mem_cons_self h
  | some x :: l, h => by
    have := fm_all l fun m => h (List.mem_cons_of_mem _ m)
    show (l.filterMap id).length + 1 = l.length + 1
    rw [this]
theorem nodupLe {l s : List Int} (h : l.Nodup) (hs : ∀ x ∈ l, x ∈ s) : l.length ≤ s.length := by
  induction l generalizing s with
  | nil => exact Nat.zero_le _
  | cons x l ih =>
    obtain ⟨h1, h2⟩ := List.nodup_cons.mp h
    have hx := hs x List.mem_cons_self
    have := ih (s := s.erase x) h2 fun y hy => (List.mem_erase_of_ne (fun z => h1 (by rw [← z]; exact hy))).mpr (hs y (List.mem_cons_of_mem _ hy))
    rw [List.length_erase_of_mem hx] at this
    have := List.length_pos_of_mem hx
    rw [List.length_cons]
    omega
/-- where room is short there is always a block that may be cleared -/
theorem chs_ne {n : Nat} {p : Int} {s : List Int} {b : Bn} (h : BInv n p s b) (hr : b.rdy = false) (hs : (s.length : Int) < ((n : Int) - 1) * p) : b.chs ≠ [] := fun hc => by
  obtain ⟨hE, hall⟩ := not_rdy h hr
  have hp1 := h.ok.p1
  rw [h.bp] at hp1
  have e1 := flat_full b.st hall hp1
  have hE' : (b.st.filter fun s => s.isEmpty).length = 1 := hE
  rw [hE', h.bn] at e1
  have hnone : none ∉ b.st.flatten := fun m => by
    obtain ⟨t, ht, hm⟩ := List.mem_flatten.mp m
    obtain ⟨k, hk, rfl⟩ := List.getElem_of_mem ht
    have hlen : ((b.st[k]).length : Int) = p := by
      rcases hall _ ht with h0 | h0
      · rw [h0] at hm; cases hm
      · exact h0
    have : k ∈ b.chs := by
      refine List.mem_filter.mpr ⟨List.mem_range.mpr hk, ?_⟩
      unfold Bn.isCh
      rw [getD_at hk, h.bp, hlen, decide_eq_true rfl, Bool.true_and]
      exact List.contains_iff_mem.mpr hm
    rw [hc] at this
    cases this
  have e2 := fm_all _ hnone
  have e3 := nodupLe h.nd h.sub
  have e4 : b.lv.length = b.st.flatten.length := e2
  have e5 : ((n : Int) - 1) * p = (n : Int) * p - p := by rw [Int.sub_mul]; omega
  omega
theorem newB_inv {n : Nat} {p : Int} {s : List Int} (hn : 2 ≤ n ∧ n ≤ 4) (hp : 1 ≤ p ∧ p ≤ 3) : BInv n p s (newB n p) ∧ (newB n p).rdy = true := by
  have hE : (newB n p).nE = n := by
    show ((List.replicate n ([] : List (Option Int))).filter fun s => s.isEmpty).length = n
    rw [List.filter_eq_self.mpr fun t ht => by rw [(List.mem_replicate.mp ht).2]; rfl, List.length_replicate]
  have hf : (newB n p).st.flatten = [] := List.flatten_eq_nil_iff.mpr fun t ht => (List.mem_replicate.mp ht).2
  have hlv : (newB n p).lv = [] := by
    unfold Bn.lv
    rw [hf]
    rfl
  refine ⟨⟨⟨?_, ?_, hp.1, hp.2, fun t ht => ?_⟩, List.length_replicate .., rfl, by omega, by rw [hlv]; exact List.nodup_nil, fun x hx => by rw [hlv] at hx; cases hx⟩, ?_⟩
  · show (List.replicate n _).length ≤ 4
    rw [List.length_replicate]
    exact hn.2
  · show (List.replicate n _).length = (List.replicate n _).length
    rw [List.length_replicate, List.length_replicate]
  · rw [(List.mem_replicate.mp ht).2]
    show (0 : Int) ≤ p
    omega
  · rw [rdy_eq, hE, decide_eq_true (by omega)]
    rfl
inductive Way : Bn → List Int → Int × List Int → Prop where
  | nil (b : Bn) : Way b [] (0, [])
  | put {b b' : Bn} {x : Int} {row : List Int} {r : Int × List Int} : b.rdy = true → b.lay x = some b' → Way b' row r → Way b (x :: row) r
  | clr {b b' : Bn} {m : Int} {k : Nat} {x : Int} {row : List Int} {r : Int × List Int} : b.rdy = false → k ∈ b.chs → b.clr k = some (b', m) → Way b' (x :: row) r → Way b (x :: row) (m + r.1, (k : Int) :: r.2)
theorem run_ok {n : Nat} {p : Int} {s : List Int} : ∀ (row : List Int) (b : Bn), BInv n p s b → (∀ x ∈ row, x ∈ s) → ∃ bE rest, b.run row = some (bE, rest) ∧ BInv n p s bE ∧ (rest = [] ∨ bE.rdy = false) ∧ (∀ x ∈ rest, x ∈ s) ∧ rest.length ≤ row.length ∧ (b.rdy = true → row ≠ [] → rest.length < row.length) ∧ ∀ r, Way b row r → Way bE rest r
  | [], b, h, _ => ⟨b, [], rfl, h, .inl rfl, fun x hx => (by cases hx), Nat.le_refl _, fun _ z => absurd rfl z, fun r w => w⟩
  | x :: row, b, h, hx => by
    cases hr : b.rdy with
    | false => exact ⟨b, x :: row, by rw [Bn.run, hr]; rfl, h, .inr hr, hx, Nat.le_refl _, fun z => by (cases z), fun r w => w⟩
    | true =>
      obtain ⟨b', h1, h2, _⟩ := lay_ok h hr (hx x List.mem_cons_self)
      obtain ⟨bE, rest, g1, g2, g3, g4, g5, g6, g7⟩ := run_ok row b' h2 fun y hy => hx y (List.mem_cons_of_mem _ hy)
      refine ⟨bE, rest, ?_, g2, g3, g4, by rw [List.length_cons]; omega, fun _ _ => by rw [List.length_cons]; omega, fun r w => g7 r ?_⟩
      · rw [Bn.run, if_pos hr, h1]
        exact g1
      · cases w with
        | put a c w =>
          rw [h1] at c
          cases c
          exact w
        | clr a _ _ _ =>
          rw [hr] at a
          cases a
def rkI (r : Int × List Int) : List Int := r.1 :: r.2
theorem lexI_head {x y : Int} {xs ys : List Int} (h : x < y) : lexI (y :: ys) (x :: xs) = false := by
  show (if y = x then lexI ys xs else decide (y < x)) = false
  rw [if_neg (by omega)]
  exact decide_eq_false (by omega)
theorem lexI_same {x : Int} {xs ys : List Int} : lexI (x :: ys) (x :: xs) = lexI ys xs := if_pos rfl
theorem lexI_plus {m k : Int} {r r' : Int × List Int} (h : lexI (rkI r') (rkI r) = false) : lexI (rkI (m + r'.1, k :: r'.2)) (rkI (m + r.1, k :: r.2)) = false := by
  have h : (if r'.1 = r.1 then lexI r'.2 r.2 else decide (r'.1 < r.1)) = false := h
  show (if m + r'.1 = m + r.1 then lexI (k :: r'.2) (k :: r.2) else decide (m + r'.1 < m + r.1)) = false
  by_cases e : r'.1 = r.1
  · rw [if_pos e] at h
    rw [if_pos (by omega), lexI_same]
    exact h
  · rw [if_neg e] at h
    rw [if_neg (by omega)]
    have := of_decide_eq_false h
    exact decide_eq_false (by omega)
/-- of two: the better one, the first one where they move alike -/
theorem betQ_le {k j : Nat} {m : Int} {r c : Int × List Int} {t : List Int} (hc : c.2 = (j : Int) :: t) (hj : j < k) : lexI (rkI c) (rkI (betQ (some c) k m r)) = false ∧ lexI (rkI (m + r.1, (k : Int) :: r.2)) (rkI (betQ (some c) k m r)) = false := by
  unfold betQ
  dsimp only
  split
  · rename_i h
    exact ⟨lexI_head h, lexI_ref _⟩
  · rename_i h
    refine ⟨lexI_ref _, ?_⟩
    obtain ⟨c1, c2⟩ := c
    dsimp only at hc h
    subst hc
    show lexI ((m + r.1) :: (k : Int) :: r.2) (c1 :: (j : Int) :: t) = false
    by_cases e : m + r.1 = c1
    · rw [e, lexI_same]
      exact lexI_head (by omega)
    · exact lexI_head (by omega)
theorem bestQ_min {g : Bn → List Int → Option (Int × List Int)} {b : Bn} {rest : List Int} : ∀ (ks : List Nat) (o : Option (Int × List Int)), ks.Pairwise (· < ·) → (∀ c, o = some c → ∃ (j : Nat) (t : List Int), c.2 = (j : Int) :: t ∧ ∀ k ∈ ks, j < k) → (ks ≠ [] ∨ o.isSome) →
    (∀ k ∈ ks, ∃ b' m r, b.clr k = some (b', m) ∧ g b' rest = some r ∧ ∀ r', Way b' rest r' → lexI (rkI r') (rkI r) = false) →
    ∃ res, bestQ g b rest ks o = some res ∧ (∀ c, o = some c → lexI (rkI c) (rkI res) = false) ∧ ∀ k ∈ ks, ∀ b' m r', b.clr k = some (b', m) → Way b' rest r' → lexI (rkI (m + r'.1, (k : Int) :: r'.2)) (rkI res) = false
  | [], o, _, _, hne, _ => by
    cases o with
    | none => rcases hne with h | h; exact absurd rfl h; cases h
    | some c => exact ⟨c, rfl, fun c' e => by cases e; exact lexI_ref _, fun k hk => by cases hk⟩
  | k :: ks, o, hp, ho, _, hg => by
    obtain ⟨hp1, hp2⟩ := List.pairwise_cons.mp hp
    obtain ⟨b', m, r, h1, h2, h3⟩ := hg k List.mem_cons_self
    have hb : (∀ c, o = some c → lexI (rkI c) (rkI (betQ o k m r)) = false) ∧ lexI (rkI (m + r.1, (k : Int) :: r.2)) (rkI (betQ o k m r)) = false ∧ ∃ (j : Nat) (t : List Int), (betQ o k m r).2 = (j : Int) :: t ∧ j ≤ k := by
      cases o with
      | none => exact ⟨fun c e => (by cases e), lexI_ref _, k, r.2, rfl, Nat.le_refl _⟩
      | some c =>
        obtain ⟨j, t, hc, hj⟩ := ho c rfl
        have hjk := hj k List.mem_cons_self
        obtain ⟨a1, a2⟩ := betQ_le (m := m) (r := r) hc hjk
        refine ⟨fun c' e => (by cases e; exact a1), a2, ?_⟩
        unfold betQ
        dsimp only
        split
        · exact ⟨k, r.2, rfl, Nat.le_refl _⟩
        · exact ⟨j, t, hc, Nat.le_of_lt hjk⟩
    obtain ⟨hb1, hb2, j, t, hbj, hjk⟩ := hb
    obtain ⟨res, g1, g2, g3⟩ := bestQ_min ks (some (betQ o k m r)) hp2 (fun c e => by
      cases e
      exact ⟨j, t, hbj, fun i hi => Nat.lt_of_le_of_lt hjk (hp1 i hi)⟩) (.inr rfl) fun i hi => hg i (List.mem_cons_of_mem _ hi)
    have hres := g2 _ rfl
    refine ⟨res, ?_, fun c e => lexI_tr hres (hb1 c e), fun i hi b2 m2 r2 e2 w => ?_⟩
    · rw [bestQ, h1]
      show ((g b' rest).bind fun r => bestQ g b rest ks (some (betQ o k m r))) = _
      rw [h2]
      exact g1
    · rcases List.mem_cons.mp hi with rfl | hi
      · rw [h1] at e2
        cases e2
        exact lexI_tr hres (lexI_tr hb2 (lexI_plus (h3 r2 w)))
      · exact g3 i hi b2 m2 r2 e2 w
theorem chs_sorted (b : Bn) : b.chs.Pairwise (· < ·) := List.Pairwise.filter _ List.pairwise_lt_range
/-- the least is had, and no way comes ahead of it -/
theorem least_ok {n : Nat} {p : Int} {s : List Int} (hs : (s.length : Int) < ((n : Int) - 1) * p) : ∀ (f : Nat) (b : Bn) (row : List Int), BInv n p s b → b.rdy = true → (∀ x ∈ row, x ∈ s) → row.length ≤ f → ∃ res, lstQ (f + 1) b row = some res ∧ ∀ r, Way b row r → lexI (rkI r) (rkI res) = false := by
  intro f
  induction f with
  | zero =>
    intro b row h hr hx hl
    obtain rfl : row = [] := List.length_eq_zero_iff.mp (by omega)
    refine ⟨(0, []), rfl, fun r w => ?_⟩
    cases w
    exact lexI_ref _
  | succ f ih =>
    intro b row h hr hx hl
    obtain ⟨bE, rest, h1, h2, h3, h4, h5, h6, h7⟩ := run_ok row b h hx
    by_cases hre : rest = []
    · refine ⟨(0, []), ?_, fun r w => ?_⟩
      · rw [lstQ, h1]
        show (if rest = [] then some ((0 : Int), ([] : List Int)) else _) = _
        rw [if_pos hre]
      · have w := h7 r w
        rw [hre] at w
        cases w
        exact lexI_ref _
    · have hnr : bE.rdy = false := h3.resolve_left hre
      have hrow : row ≠ [] := fun z => by
        rw [z] at h5
        exact hre (List.length_eq_zero_iff.mp (Nat.le_zero.mp h5))
      have hlt := h6 hr hrow
      have hne := chs_ne h2 hnr hs
      obtain ⟨res, g1, _, g3⟩ := bestQ_min (g := lstQ (f + 1)) (b := bE) (rest := rest) bE.chs none (chs_sorted bE) (fun c e => by cases e) (.inl hne) fun k hk => by
        obtain ⟨b', m, e1, e2, e3, _⟩ := clr_ok h2 hnr hk
        obtain ⟨r, e4, e5⟩ := ih b' rest e2 e3 h4 (by omega)
        exact ⟨b', m, r, e1, e4, e5⟩
      refine ⟨res, ?_, fun r w => ?_⟩
      · rw [lstQ, h1]
        show (if rest = [] then some ((0 : Int), ([] : List Int)) else bestQ (lstQ (f + 1)) bE rest bE.chs none) = _
        rw [if_neg hre]
        exact g1
      · have w1 := h7 r w
        clear w
        cases w1 with
        | nil => exact absurd rfl hre
        | put a _ _ => rw [hnr] at a; cases a
        | clr a hk hc w2 => exact g3 _ hk _ _ _ hc w2
/-! ### `<` of pairs of a whole number and a list of whole numbers -/
section
open PySem PySem.Spec PyProof.Rows L2 Kit
def tupD (r : Int × List Int) : PyData := .tuple [.int r.1, intsD r.2]
theorem lex_one (ns ms : List Int) : PyProof.Rows.lexLt itemOrd (PySem.W.keyToksAll [intsD ns]) (PySem.W.keyToksAll [intsD ms]) = lexI ns ms := by
  have ha : PySem.W.alike (intsD ns) (intsD ms) = true := alike_ints ns ms
  have ee : PyData.eqv (intsD ns) (intsD ms) = decide (ns = ms) := by
    unfold intsD
    rw [PyData.eqv, eqv_ints]
  by_cases h : ns = ms
  · rw [PySem.W.dataLt_all_yes ha (by rw [ee]; exact decide_eq_true h), h, lexI_ref]
    rfl
  · rw [PySem.W.dataLt_all_no ha (by rw [ee]; exact decide_eq_false h), lt_intsD]
theorem lt_tupD (r t : Int × List Int) : PySem.W.dataLt (tupD r) (tupD t) = lexI (r.1 :: r.2) (t.1 :: t.2) := by
  unfold tupD
  rw [PySem.W.dataLt_tuple]
  show _ = if r.1 = t.1 then lexI r.2 t.2 else decide (r.1 < t.1)
  by_cases h : r.1 = t.1
  · rw [h, if_pos rfl, PySem.W.dataLt_all_yes rfl (PySem.W.eqv_refl_alike _ rfl)]
    exact lex_one r.2 t.2
  · rw [if_neg h, PySem.W.dataLt_all_no rfl (by
      show PyData.eqv (.int r.1) (.int t.1) = false
      cases e : PyData.eqv (.int r.1) (.int t.1) with
      | false => rfl
      | true => exact absurd (by simpa [PyData.eqv] using e) h), PySem.W.dataLt_int]
theorem alike_tupD (r t : Int × List Int) : PySem.W.alike (tupD r) (tupD t) = true := by
  have h : PySem.W.alike (intsD r.2) (intsD t.2) = true := alike_ints _ _
  show (PySem.W.alike (.int r.1) (.int t.1) && (PySem.W.alike (intsD r.2) (intsD t.2) && true)) = true
  rw [h]
  rfl
theorem depth_tupD (r : Int × List Int) : (tupD r).depth ≤ 3 := by
  have h := depth_ints r.2
  show max (PyData.depth (.int r.1)) (max (PyData.depth (intsD r.2)) 0) + 1 ≤ 3
  have h0 : PyData.depth (.int r.1) ≤ 1 := by unfold PyData.depth; omega
  omega
def rLtP (K : PySem.W.Frag) : R2 := fun x y H Q => ∃ (a b l m : Addr) (r t : Int × List Int), x = .ref a ∧ y = .ref b ∧ SqT K H a [.int r.1, .ref l] ∧ SqL K H l (r.2.map V.int) ∧ SqT K H b [.int t.1, .ref m] ∧ SqL K H m (t.2.map V.int) ∧ Q (.bl (lexI (r.1 :: r.2) (t.1 :: t.2))) H
theorem op_ltP {X : Cx} (hu : X.A.units + 64 < cLine) : OpR X (compareOp .Lt) (rLtP X.K) := by
  intro pins s σ H x y v u Q I rx ry h
  obtain ⟨a, b, l, m, r, t, rfl, rfl, ha, hl, hb, hm, q⟩ := h
  obtain ⟨as, r1⟩ := Dp.reads I (tupD r) (.ref a) v (.tup ha (.cons (.int _) (.cons (.lst hl dpInts) .nil))) rx
  obtain ⟨bs, r2⟩ := Dp.reads I (tupD t) (.ref b) u (.tup hb (.cons (.int _) (.cons (.lst hm dpInts) .nil))) ry
  have d1 := depth_tupD r
  refine PySem.W.lt_data r1 r2 (alike_tupD r t) (fun z => by cases z) (by omega) ?_
  rw [lt_tupD]
  exact ⟨.bl _, H, I, rfl, q⟩
theorem x_ltP {K : PySem.W.Frag} {H : Hp} {Q : VK} {a b l m : Addr} {r t : Int × List Int} (ha : SqT K H a [.int r.1, .ref l]) (hl : SqL K H l (r.2.map V.int)) (hb : SqT K H b [.int t.1, .ref m]) (hm : SqL K H m (t.2.map V.int)) (q : Q (.bl (lexI (r.1 :: r.2) (t.1 :: t.2))) H) : rLtP K (.ref a) (.ref b) H Q := ⟨a, b, l, m, r, t, rfl, rfl, ha, hl, hb, hm, q⟩
end
/-! ### a drawn race -/
def spDrawn (K : PySem.W.Frag) : Sp := fun vs H Q _ => ∃ (a : Addr) (ns : List Int) (k : Int), vs = [.ref a, .int k] ∧ SqL K H a (ns.map V.int) ∧ ns.length ≤ 63 ∧ 0 ≤ k ∧ k ≤ 1000 ∧ ∀ v : Int, Q (.int v) H
theorem ok_drawn (T : Txt K mg) : FO P w K mg base 1 T.a__law_drawn T.fd__law_drawn ["_law_script", "_law_k"] (spDrawn K) := by
  have sc := sc__law_drawn
  refine T.F__law_drawn.okX sc (fun vs H Q E h => ?_) (fun cdv A outer s H vs Q E hr h => ?_)
  · obtain ⟨_, _, _, rfl, _⟩ := h
    rfl
  obtain ⟨a, ns, k, rfl, hS, hl, hk, hk2, q⟩ := h
  refine ⟨_, (pss_cons (ps_if (pt_cmpR op_uLt (pv 1) (pe_callB (cr_ulen) (by rfl) T.b_len bt_len (pa_cons (pv 0) pa_nil)) (nomark _)) (pss_one (ps_ret (pe_ix ix_seq (pv 0) (pv 1) (fun _ _ => rfl)))) pss_nil)
      (pss_cons (ps_set (i := 2) sc.nd rfl (by first | exact Or.inl rfl | exact Or.inr rfl) (pe_op op_uAdd (pe_op op_uMul pe_int (pv 1)) pe_int))
      (pss_cons (ps_if (pt_cmpR op_gt (pe_callB (cr_ulen) (by rfl) T.b_len bt_len (pa_cons (pv 0) pa_nil)) pe_int (nomark _)) (pss_one (ps_set (i := 2) sc.nd rfl (by first | exact Or.inl rfl | exact Or.inr rfl) (pe_op op_mod (pe_op op_uAdd (pe_op op_uMul (pe_ix ix_seq (pv 0) (pe_op op_mod (pe_op op_uMul (pv 1) pe_int) (pe_callB (cr_ulen) (by rfl) T.b_len bt_len (pa_cons (pv 0) pa_nil))) (fun _ _ => rfl)) pe_int) (pv 2)) pe_int))) pss_nil)
      (pss_one (ps_ret (pe_op op_mod (pe_op op_uMul (pv 2) (pv 2)) pe_int)))))), ?_⟩
  walk_at "begin"
  walk_at "if"
  refine x_iteD (fun h => ?_) (fun h => ?_)
  · walk_at "go"
    exact q _
  walk_at "go"
  walk_at "if"
  refine x_iteD (fun h => ?_) (fun h => ?_)
  · have m0 := Int.emod_nonneg (k * 3) (b := (ns.length : Int)) (by omega)
    have m1 := Int.emod_lt_of_pos (k * 3) h
    walk_at "go"
    exact q _
  · walk_at "go"
    exact q _
theorem x_drawn {H : Hp} {Q : VK} {E : XK} {a : Addr} {ns : List Int} {k : Int} (h : SqL K H a (ns.map V.int)) (q : ∀ v : Int, Q (.int v) H) (hl : ns.length ≤ 63) (h0 : 0 ≤ k) (h1 : k ≤ 1000) : spDrawn K [.ref a, .int k] H Q E := ⟨a, ns, k, rfl, h, hl, h0, h1, q⟩
local macro_rules | `(tactic| walk_at "u") => `(tactic| (refine x_drawn (by walk_at "sq") (fun v => ?_) (by omega) (by omega) (by omega)))
def spRace (K : PySem.W.Frag) : Sp := fun vs H Q _ => ∃ (a : Addr) (ns : List Int), vs = [.ref a] ∧ SqL K H a (ns.map V.int) ∧ ns.length ≤ 63 ∧
  ∀ (t l : Addr) (n : Nat) (p : Int) (row s : List Int) (H' : Hp), (2 ≤ n ∧ n ≤ 4) → (1 ≤ p ∧ p ≤ 3) → 3 ≤ ((n : Int) - 1) * p → (row.length : Int) ≤ ((n : Int) - 1) * p + 6 → (∀ x ∈ row, 0 ≤ x ∧ x ≤ 63) → (∀ x ∈ row, x ∈ s) → (s.length : Int) ≤ ((n : Int) - 1) * p - 2 →
    Same H H' → H' t = some (.lst [.int (n : Int), .int p, .ref l]) → H' l = some (.lst (row.map V.int)) → Q (.ref t) H'
theorem ok_race (T : Txt K mg) : FO P w K mg base 2 T.a__law_race T.fd__law_race ["_law_script"] (spRace K) := by
  have sc := sc__law_race
  refine T.F__law_race.okX sc (fun vs H Q E h => ?_) (fun cdv A outer s H vs Q E hr h => ?_)
  · obtain ⟨_, _, rfl, _⟩ := h
    rfl
  obtain ⟨a, ns, rfl, hS, hl, q⟩ := h
  refine ⟨_, (pss_cons (ps_set (i := 1) sc.nd rfl (by first | exact Or.inl rfl | exact Or.inr rfl) (pe_op op_uAdd pe_int (pe_op op_mod (pe_callS (ok_drawn T) (hr.mono (by decide)) (by rfl) T.g__law_drawn T.k__law_drawn T.bd__law_drawn (passAt (takes_of rfl rfl rfl rfl)) (pa_cons (pv 0) (pa_cons pe_int pa_nil))) pe_int)))
      (pss_cons (ps_set (i := 2) sc.nd rfl (by first | exact Or.inl rfl | exact Or.inr rfl) (pe_op op_uAdd pe_int (pe_op op_mod (pe_callS (ok_drawn T) (hr.mono (by decide)) (by rfl) T.g__law_drawn T.k__law_drawn T.bd__law_drawn (passAt (takes_of rfl rfl rfl rfl)) (pa_cons (pv 0) (pa_cons pe_int pa_nil))) pe_int)))
      (pss_cons (ps_if (pt_cmpR op_uLt (pe_op op_uMul (pe_op op_sub (pv 1) pe_int) (pv 2)) pe_int (nomark _)) (pss_cons (ps_set (i := 1) sc.nd rfl (by first | exact Or.inl rfl | exact Or.inr rfl) pe_int)
      (pss_one (ps_set (i := 2) sc.nd rfl (by first | exact Or.inl rfl | exact Or.inr rfl) pe_int))) pss_nil)
      (pss_cons (ps_set (i := 3) sc.nd rfl (by first | exact Or.inl rfl | exact Or.inr rfl) (pe_op op_uMul (pe_op op_sub (pv 1) pe_int) (pv 2)))
      (pss_cons (ps_set (i := 4) sc.nd rfl (by first | exact Or.inl rfl | exact Or.inr rfl) (pe_op op_uAdd pe_int (pe_op op_uMul pe_int (pe_op op_mod (pe_callS (ok_drawn T) (hr.mono (by decide)) (by rfl) T.g__law_drawn T.k__law_drawn T.bd__law_drawn (passAt (takes_of rfl rfl rfl rfl)) (pa_cons (pv 0) (pa_cons pe_int pa_nil))) pe_int))))
      (pss_cons (ps_set (i := 5) sc.nd rfl (by first | exact Or.inl rfl | exact Or.inr rfl) (pe_op op_uAdd pe_int (pe_op op_mod (pe_callS (ok_drawn T) (hr.mono (by decide)) (by rfl) T.g__law_drawn T.k__law_drawn T.bd__law_drawn (passAt (takes_of rfl rfl rfl rfl)) (pa_cons (pv 0) (pa_cons pe_int pa_nil))) (pe_op op_sub (pv 3) pe_int))))
      (pss_cons (ps_set (i := 6) sc.nd rfl (by first | exact Or.inl rfl | exact Or.inr rfl) (pe_lc (own := [("_law_k", 7)]) (by rfl) sc.nd (pi_range1 (by rfl) T.b_range (pa_cons (pv 5) pa_nil)) (blkOk_by (own := [("_law_k", 7)]) (N := N__law_race) (sc := defScope s__law_race) (by decide +kernel)) (fun _ _ _ _ _ => (pg_name (i := 7) sc.nd rfl (by first | exact Or.inl rfl | exact Or.inr rfl))) (fun _ _ _ _ _ => pts_nil) (fun _ _ _ _ _ => (pe_op op_mod (pe_op (K_add (K := K)) (pe_callS (ok_drawn T) (hr.mono (by decide)) (by rfl) T.g__law_drawn T.k__law_drawn T.bd__law_drawn passL2 (pa_cons (pv 0) (pa_cons pe_int pa_nil))) (pe_op op_uMul (pv 4) (pv 7))) pe_int))))
      (pss_cons (ps_set (i := 8) sc.nd rfl (by first | exact Or.inl rfl | exact Or.inr rfl) (pe_op op_uAdd (pe_op op_uAdd (pv 3) pe_int) (pe_op op_mod (pe_op op_fdivW (pe_callS (ok_drawn T) (hr.mono (by decide)) (by rfl) T.g__law_drawn T.k__law_drawn T.bd__law_drawn (passAt (takes_of rfl rfl rfl rfl)) (pa_cons (pv 0) (pa_cons pe_int pa_nil))) pe_int) pe_int)))
      (pss_cons (ps_if (pt_cmpR (op_uEq hr.units) (pe_op op_mod (pe_callS (ok_drawn T) (hr.mono (by decide)) (by rfl) T.g__law_drawn T.k__law_drawn T.bd__law_drawn (passAt (takes_of rfl rfl rfl rfl)) (pa_cons (pv 0) (pa_cons pe_int pa_nil))) pe_int) pe_int (nomark _)) (pss_one (ps_set (i := 8) sc.nd rfl (by first | exact Or.inl rfl | exact Or.inr rfl) (pe_op op_mod (pe_op op_fdivW (pe_callS (ok_drawn T) (hr.mono (by decide)) (by rfl) T.g__law_drawn T.k__law_drawn T.bd__law_drawn (passAt (takes_of rfl rfl rfl rfl)) (pa_cons (pv 0) (pa_cons pe_int pa_nil))) pe_int) (pe_op op_uAdd (pv 3) pe_int)))) pss_nil)
      (pss_one (ps_ret (pe_lst (pa_cons (pv 1) (pa_cons (pv 2) (pa_cons (pe_lc (own := [("_law_k", 7)]) (by rfl) sc.nd (pi_range1 (by rfl) T.b_range (pa_cons (pv 8) pa_nil)) (blkOk_by (own := [("_law_k", 7)]) (N := N__law_race) (sc := defScope s__law_race) (by decide +kernel)) (fun _ _ _ _ _ => (pg_name (i := 7) sc.nd rfl (by first | exact Or.inl rfl | exact Or.inr rfl))) (fun _ _ _ _ _ => pts_nil) (fun _ _ _ _ _ => (pe_ix (K_ix (K := K)) (pv 6) (pe_op op_mod (pe_callS (ok_drawn T) (hr.mono (by decide)) (by rfl) T.g__law_drawn T.k__law_drawn T.bd__law_drawn passL2 (pa_cons (pv 0) (pa_cons (pe_op (K_add (K := K)) pe_int (pv 7)) pa_nil))) (pv 5)) (fun _ _ => rfl)))) pa_nil))))))))))))))), ?_⟩
  walk_at "begin"
  walk_at "go"
  rename_i v0 v1
  refine x_join (fun σ' H1 => ∃ (n : Nat) (p : Int), (2 ≤ n ∧ n ≤ 4) ∧ (1 ≤ p ∧ p ≤ 3) ∧ 3 ≤ ((n : Int) - 1) * p ∧ σ' = [some (.ref a), some (.int (n : Int)), some (.int p), none, none, none, none, none, none] ∧ H1 = H) (fun R hR => ?_) ?_
  · walk_at "go"
    refine x_iteD (fun h => ?_) (fun h => ?_)
    · walk_at "go"
      refine hR _ _ ⟨3, 2, by decide, by decide, by decide, rfl, rfl⟩
    · walk_at "go"
      refine hR _ _ ⟨(2 + v0 % 3).toNat, 1 + v1 % 3, by omega, by omega, ?_, ?_, rfl⟩
      · rw [Int.toNat_of_nonneg (by omega)]
        omega
      · rw [Int.toNat_of_nonneg (by omega)]
  rintro σ' H1 ⟨n, p, hn, hp, hnp, rfl, rfl⟩
  obtain ⟨M, hM⟩ : ∃ M : Int, ((n : Int) - 1) * p = M := ⟨_, rfl⟩
  have hM9 : M ≤ 9 := by
    have hle : ((n : Int) - 1) * p ≤ 3 * 3 := Int.mul_le_mul (by omega) hp.2 (by omega) (by decide)
    omega
  rw [hM] at hnp
  walk_at "go"
  rw [hM]
  walk_at "go"
  rename_i v3 v4
  have hu := Int.emod_nonneg v4 (b := M - 2) (by omega)
  have hu2 := Int.emod_lt_of_pos v4 (b := M - 2) (by omega)
  obtain ⟨U, hU⟩ : ∃ U : Int, 1 + v4 % (M - 2) = U := ⟨_, rfl⟩
  rw [hU]
  refine x_lcR1K (fun i acc H' => ∃ names : List Int, acc = names.map V.int ∧ names.length = i ∧ ∀ x ∈ names, 0 ≤ x ∧ x ≤ 63) (fun i acc H H' _ h => h) ⟨by omega, by omega⟩ ⟨[], rfl, rfl, fun x h => by cases h⟩ ?_ ?_
  · intro i acc H' hi hs' ⟨names, ha, hnl, hb⟩ NY NN hY hN
    have hS' := hs'.seq hS
    dsimp only [wipe]
    walk_at "go"
    refine ⟨rfl, ?_⟩
    walk_at "go"
    rename_i vv
    refine hY _ _ (fun _ _ h => h) ⟨names ++ [(vv + (1 + 2 * (v3 % 32)) * (i : Int)) % 64], ?_, ?_, ?_⟩
    · rw [ha, List.map_append]
      rfl
    · rw [List.length_append, hnl]
      rfl
    · intro x hx
      rcases List.mem_append.mp hx with hx | hx
      · exact hb x hx
      · rw [List.mem_singleton.mp hx]
        omega
  rintro l1 acc H2 hl1 hs2 hn2 ⟨names, rfl, hnl, hb⟩
  have hS2 := hs2.seq hS
  walk_at "go"
  rename_i v5
  refine x_join (fun σ' H3 => ∃ m : Int, 0 ≤ m ∧ m ≤ M + 6 ∧ σ' = [some (.ref a), some (.int (n : Int)), some (.int p), some (.int M), some (.int (1 + 2 * (v3 % 32))), some (.int U), some (.ref l1), none, some (.int m)] ∧ H3 = H2) (fun R hR => ?_) ?_
  · walk_at "go"
    rename_i v6
    refine x_iteD (fun h => ?_) (fun h => ?_)
    · walk_at "go"
      rename_i v7
      have g0 := Int.emod_nonneg (v7 / 3) (b := M + 7) (by omega)
      have g1 := Int.emod_lt_of_pos (v7 / 3) (b := M + 7) (by omega)
      exact hR _ _ ⟨_, g0, by omega, rfl, rfl⟩
    · walk_at "go"
      exact hR _ _ ⟨M + 1 + v5 / 3 % 6, by omega, by omega, rfl, rfl⟩
  rintro σ' H3 ⟨m, hm0, hm1, rfl, rfl⟩
  walk_at "go"
  refine x_lcR1K (fun i acc H' => ∃ row : List Int, acc = row.map V.int ∧ row.length = i ∧ ∀ x ∈ row, x ∈ names) (fun i acc H H' _ h => h) ⟨by omega, by omega⟩ ⟨[], rfl, rfl, fun x h => by cases h⟩ ?_ ?_
  · intro i acc H' hi hs' ⟨row, ha, hrl, hb2⟩ NY NN hY hN
    have hS' := hs'.seq hS2
    have hn' := hs' _ _ hn2
    dsimp only [wipe]
    walk_at "go"
    refine ⟨rfl, ?_⟩
    walk_at "go"
    case h0 => exact Int.emod_nonneg _ (by omega)
    case h1 =>
      rename_i vv
      have := Int.emod_lt_of_pos vv (b := U) (by omega)
      omega
    rename_i vv
    have k0 := Int.emod_nonneg vv (b := U) (by omega)
    have k1 := Int.emod_lt_of_pos vv (b := U) (by omega)
    refine hY _ _ (fun _ _ h => h) ⟨row ++ [names.getD (vv % U).toNat 0], ?_, ?_, ?_⟩
    · rw [ha, List.map_append]
      rfl
    · rw [List.length_append, hrl]
      rfl
    · intro x hx
      rcases List.mem_append.mp hx with hx | hx
      · exact hb2 x hx
      · rw [List.mem_singleton.mp hx, List.getD_eq_getElem?_getD, List.getElem?_eq_getElem (by omega)]
        exact List.getElem_mem _
  rintro l2 acc2 H4 hl2 hs4 hn4 ⟨row, rfl, hrl, hb2⟩
  walk_at "go"
  rename_i t H5 ht hs5 hn5
  refine q t l2 n p row names H5 hn hp (by omega) (by omega) (fun x hx => hb x (hb2 x hx)) hb2 (by omega) (hs2.trans (hs4.trans hs5)) hn5 (hs5 _ _ hn4)
theorem x_race {H : Hp} {Q : VK} {E : XK} {a : Addr} {ns : List Int} (h : SqL K H a (ns.map V.int)) (hl : ns.length ≤ 63) (q : ∀ (t l : Addr) (n : Nat) (p : Int) (row s : List Int) (H' : Hp), (2 ≤ n ∧ n ≤ 4) → (1 ≤ p ∧ p ≤ 3) → 3 ≤ ((n : Int) - 1) * p → (row.length : Int) ≤ ((n : Int) - 1) * p + 6 → (∀ x ∈ row, 0 ≤ x ∧ x ≤ 63) → (∀ x ∈ row, x ∈ s) → (s.length : Int) ≤ ((n : Int) - 1) * p - 2 →
    Same H H' → H' t = some (.lst [.int (n : Int), .int p, .ref l]) → H' l = some (.lst (row.map V.int)) → Q (.ref t) H') : spRace K [.ref a] H Q E := ⟨a, ns, rfl, h, hl, q⟩
/-! ### a way, by the law's model -/
theorem tot_full {n : Nat} {p : Int} {s : List Int} {b : Bn} (h : BInv n p s b) (hr : b.rdy = false) : (b.tot : Int) = ((n : Int) - 1) * p := by
  obtain ⟨hE, hall⟩ := not_rdy h hr
  have hp1 := h.ok.p1
  rw [h.bp] at hp1
  have e1 := flat_full b.st hall hp1
  have hE' : (b.st.filter fun s => s.isEmpty).length = 1 := hE
  rw [hE', h.bn] at e1
  have e5 : ((n : Int) - 1) * p = (n : Int) * p - p := by rw [Int.sub_mul]; omega
  have e6 : b.tot = b.st.flatten.length := rfl
  omega
theorem newB_tot {n : Nat} {p : Int} : (newB n p).tot = 0 := by
  have hf : (newB n p).st.flatten = [] := List.flatten_eq_nil_iff.mpr fun t ht => (List.mem_replicate.mp ht).2
  unfold Bn.tot
  rw [hf]
  rfl
def spWay : Sp := fun vs H Q _ => ∃ (n : Nat) (p : Int) (q1 q2 : Addr) (row picks s : List Int), vs = [.int (n : Int), .int p, .ref q1, .ref q2] ∧ H q1 = some (.lst (row.map V.int)) ∧ H q2 = some (.lst (picks.map V.int)) ∧ picks.length = 6 ∧ (2 ≤ n ∧ n ≤ 4) ∧ (1 ≤ p ∧ p ≤ 3) ∧ 3 ≤ ((n : Int) - 1) * p ∧ (row.length : Int) ≤ ((n : Int) - 1) * p + 6 ∧ (∀ x ∈ row, x ∈ s) ∧ (s.length : Int) < ((n : Int) - 1) * p ∧
  ∀ (t l : Addr) (r : Int × List Int) (H' : Hp), Same H H' → H' t = some (.tup [.int r.1, .ref l]) → H' l = some (.lst (r.2.map V.int)) → Way (newB n p) row r → Q (.ref t) H'
structure WayI (H H' : Hp) (n : Nat) (p : Int) (s row : List Int) (d lc : Addr) (B : Int) (G : LG) (L : Ls) (m : Int) (cs : List Int) : Prop where
  at_ : LsAt H' d G L
  fr : ∀ a ∈ d :: G.all, H a = none
  sm : Same H H'
  ll : H' lc = some (.lst (cs.map V.int))
  lf : H lc = none
  ln : lc ∉ d :: G.all
  inv : BInv n p s L.toB
  sp : L.sp ≤ B
theorem LsAt.some {H : Hp} {d : Addr} {G : LG} {L : Ls} (h : LsAt H d G L) {a : Addr} (ha : a ∈ d :: G.all) : H a ≠ none := fun z => by
  rcases List.mem_cons.mp ha with rfl | m
  · rw [h.d0] at z; cases z
  · simp only [LG.all, List.mem_cons] at m
    rcases m with rfl | rfl | rfl | m
    · rw [h.lh] at z; cases z
    · rw [h.lt] at z; cases z
    · rw [h.dn] at z; cases z
    · obtain ⟨i, hi⟩ := List.mem_iff_getElem?.mp m
      have hil := (List.getElem?_eq_some_iff.mp hi).1
      obtain ⟨ys, e, _⟩ := h.st i a _ hi (List.getElem?_eq_getElem (h.len ▸ hil))
      rw [e] at z
      cases z
theorem ok_way (T : Txt K mg) : FO P w K mg base 3 T.a__law_way T.fd__law_way ["_law_blocks", "_law_pages", "_law_row", "_law_picks"] spWay := by
  have sc := sc__law_way
  refine T.F__law_way.okX sc (fun vs H Q E h => ?_) (fun cdv A outer s H vs Q E hr h => ?_)
  · obtain ⟨_, _, _, _, _, _, _, rfl, _⟩ := h
    rfl
  obtain ⟨n, p, q1, q2, row, picks, sh, rfl, hq1, hq2, hpl, hn, hp, hnp, hrl, hrow, hsh, q⟩ := h
  have hle : ((n : Int) - 1) * p ≤ 3 * 3 := Int.mul_le_mul (by omega) hp.2 (by omega) (by decide)
  obtain ⟨M, hM⟩ : ∃ M : Int, ((n : Int) - 1) * p = M := ⟨_, rfl⟩
  rw [hM] at hnp hrl hle
  refine ⟨_, (pss_cons (ps_set (i := 4) sc.nd rfl (by first | exact Or.inl rfl | exact Or.inr rfl) (pe_callS (ok_new T) (hr.mono (by decide)) (by rfl) T.g__law_new T.k__law_new T.bd__law_new (passAt (takes_of rfl rfl rfl rfl)) (pa_cons (pv 0) (pa_cons (pv 1) pa_nil))))
      (pss_cons (ps_set (i := 5) sc.nd rfl (by first | exact Or.inl rfl | exact Or.inr rfl) pe_int)
      (pss_cons (ps_set (i := 6) sc.nd rfl (by first | exact Or.inl rfl | exact Or.inr rfl) (pe_lst pa_nil))
      (pss_cons (ps_for (passes_of rfl) rfl (pi_list (pv 2)) (pg_name (i := 7) sc.nd rfl (by first | exact Or.inl rfl | exact Or.inr rfl)) (pss_cons (ps_if (pt_truth (pe_callS (ok_short T) (hr.mono (by decide)) (by rfl) T.g__law_short T.k__law_short T.bd__law_short (passAt (takes_of rfl rfl rfl rfl)) (pa_cons (pv 4) pa_nil)) (by intro _; rfl)) (pss_cons (ps_set (i := 8) sc.nd rfl (by first | exact Or.inl rfl | exact Or.inr rfl) (pe_callS (ok_ways T) (hr.mono (by decide)) (by rfl) T.g__law_ways T.k__law_ways T.bd__law_ways (passAt (takes_of rfl rfl rfl rfl)) (pa_cons (pv 4) pa_nil)))
      (pss_cons (ps_set (i := 9) sc.nd rfl (by first | exact Or.inl rfl | exact Or.inr rfl) (pe_ix ix_seq (pv 8) (pe_op op_mod (pe_ix ix_seq (pv 3) (pe_callB (cr_ulen) (by rfl) T.b_len bt_len (pa_cons (pv 6) pa_nil)) (fun _ _ => rfl)) (pe_callB (cr_ulen) (by rfl) T.b_len bt_len (pa_cons (pv 8) pa_nil))) (fun _ _ => rfl)))
      (pss_cons (ps_aug (i := 5) sc.nd rfl (by first | exact Or.inl rfl | exact Or.inr rfl) (pe_callS (ok_cleared_out T) (hr.mono (by decide)) (by rfl) T.g__law_cleared_out T.k__law_cleared_out T.bd__law_cleared_out (passAt (takes_of rfl rfl rfl rfl)) (pa_cons (pv 4) (pa_cons (pv 9) pa_nil))) ip_add)
      (pss_one (ps_expr (pe_bm PySem.F.plainAttrs_list PySem.F.slot_list_append PySem.F.type_list_append mt_append (pv 6) (pa_cons (pv 9) pa_nil))))))) pss_nil)
      (pss_one (ps_expr (pe_callS (ok_put T) (hr.mono (by decide)) (by rfl) T.g__law_put T.k__law_put T.bd__law_put (passAt (takes_of rfl rfl rfl rfl)) (pa_cons (pv 4) (pa_cons (pv 7) pa_nil)))))))
      (pss_one (ps_ret (pe_tup (pa_cons (pv 5) (pa_cons (pv 6) pa_nil))))))))), ?_⟩
  walk_at "begin"
  walk_at "go"
  refine ⟨n, p, rfl, hn.2, hp, fun d G H1 hs1 hfr hL1 => ?_⟩
  walk_at "go"
  rename_i lc H2 hlc hs2 hn2
  have hq12 := hs2 _ _ (hs1 _ _ hq1)
  have hL2 := hL1.mono hs2
  have hlcn : lc ∉ d :: G.all := fun m => hL1.some m hlc
  refine x_seq ?_
  walk_at "go"
  refine x_frL (SqL.of hq12) (fun i σ H' => ∃ (G' : LG) (L : Ls) (m : Int) (cs : List Int) (v7 v8 v9 : Option V), σ = [some (.int (n : Int)), some (.int p), some (.ref q1), some (.ref q2), some (.ref d), some (.int m), some (.ref lc), v7, v8, v9] ∧ WayI H H' n p sh row d lc (4 * (i : Int)) G' L m cs ∧ L.toB.tot + cs.length ≤ i ∧ ∀ r, Way L.toB (row.drop i) r → Way (newB n p) row (m + r.1, cs ++ r.2)) ?_ (fun i σ H' _ ⟨_, _, _, _, _, _, _, _, hw, _⟩ => SqL.of (hw.sm _ _ hq1)) ?_ ?_
  · obtain ⟨hI, _⟩ := newB_inv (s := sh) hn hp
    refine ⟨G, newL n p, 0, [], none, none, none, rfl, ⟨hL2, hfr, hs1.trans hs2, hn2, same_none hs1 hlc, hlcn, ?_, Int.le_refl _⟩, ?_, ?_⟩
    · rw [newL_B]
      exact hI
    · rw [newL_B, newB_tot]
      exact Nat.le_refl _
    · intro r w
      rw [newL_B] at w
      rw [Int.zero_add]
      exact w
  · intro i x σ H' hx ⟨G', L, m, cs, v7, v8, v9, hσ, hw, hT, hW⟩
    subst hσ
    rw [List.getElem?_map] at hx
    cases hg : row[i]? with
    | none => rw [hg] at hx; cases hx
    | some x1 =>
      rw [hg] at hx
      cases hx
      have hil := (List.getElem?_eq_some_iff.mp hg).1
      have hx1 := hrow x1 (List.mem_of_getElem? hg)
      have ed : row.drop i = x1 :: row.drop (i + 1) := by
        rw [List.drop_eq_getElem_cons hil, (List.getElem?_eq_some_iff.mp hg).2]
      rw [ed] at hW
      refine x_join (fun σ' H1 => ∃ (G' : LG) (L : Ls) (m : Int) (cs : List Int) (v8 v9 : Option V), σ' = [some (.int (n : Int)), some (.int p), some (.ref q1), some (.ref q2), some (.ref d), some (.int m), some (.ref lc), some (.int x1), v8, v9] ∧ WayI H H1 n p sh row d lc (4 * (i : Int) + 3) G' L m cs ∧ L.toB.rdy = true ∧ L.toB.tot + cs.length ≤ i ∧ ∀ r, Way L.toB (x1 :: row.drop (i + 1)) r → Way (newB n p) row (m + r.1, cs ++ r.2)) (fun R hR => ?_) ?_
      · walk_at "go"
        refine ⟨d, G', L, rfl, hw.at_, fun H3 hs3 => ?_⟩
        rw [sh_rdy hw.inv]
        walk_at "go"
        have hL3 := hw.at_.mono hs3
        cases hrd : L.toB.rdy with
        | true =>
          walk_at "go"
          exact hR _ _ ⟨G', L, m, cs, v8, v9, rfl, ⟨hL3, hw.fr, hw.sm.trans hs3, hs3 _ _ hw.ll, hw.lf, hw.ln, hw.inv, by have := hw.sp; omega⟩, hrd, hT, hW⟩
        | false =>
          have hll3 := hs3 _ _ hw.ll
          have htot := tot_full hw.inv hrd
          rw [hM] at htot
          have hci : cs.length ≤ 5 := by omega
          have hne := chs_ne hw.inv hrd hsh
          have hcp : 0 < L.toB.chs.length := List.length_pos_iff.mpr hne
          have hq23 := hs3 _ _ (hw.sm _ _ hq2)
          walk_at "go"
          refine ⟨d, G', L, rfl, hL3, fun pw H4 hs4 hpw hnw => ?_⟩
          have hll4 := hs4 _ _ hll3
          have hq24 := hs4 _ _ hq23
          have hL4 := hL3.mono hs4
          have hcl : (L.toB.chs.map fun k : Nat => (k : Int)).length = L.toB.chs.length := List.length_map _
          walk_at "go"
          case h0 => exact Int.emod_nonneg _ (by rw [hcl]; omega)
          case h1 => exact Int.emod_lt_of_pos _ (by rw [hcl]; omega)
          obtain ⟨z, hz⟩ : ∃ z, z = picks.getD ((cs.length : Int)).toNat 0 % ((L.toB.chs.map fun k : Nat => (k : Int)).length : Int) := ⟨_, rfl⟩
          rw [← hz]
          have z0 : 0 ≤ z := by rw [hz]; exact Int.emod_nonneg _ (by rw [hcl]; omega)
          have z1 : z < (L.toB.chs.length : Int) := by rw [hz, hcl]; exact Int.emod_lt_of_pos _ (by omega)
          have hzl : z.toNat < L.toB.chs.length := by omega
          obtain ⟨kk, hkk⟩ : ∃ kk, kk = L.toB.chs[z.toNat] := ⟨_, rfl⟩
          have ekk : (L.toB.chs.map fun k : Nat => (k : Int)).getD z.toNat 0 = (kk : Int) := by
            rw [List.getD_eq_getElem?_getD, List.getElem?_map, List.getElem?_eq_getElem hzl, hkk]
            rfl
          rw [ekk]
          have hkm : kk ∈ L.toB.chs := by rw [hkk]; exact List.getElem_mem _
          have hkl : kk < L.hd.length := by
            rw [← Ls.len]
            exact List.mem_range.mp (List.mem_filter.mp hkm).1
          obtain ⟨b2, mm, hclr, hinv2, hrd2, htot2⟩ := clr_ok hw.inv hrd hkm
          have hsp := hw.sp
          refine ⟨d, G', L, b2, kk, mm, rfl, hL4, hkl, hclr, by omega, fun L5 G5 H5 hO5 hT5 hf5 hL5 hB5 hsp5 => ?_⟩
          subst hB5
          have hs04 : Same H H4 := hw.sm.trans (hs3.trans hs4)
          have hll5 := hO5.at hll4 hw.ln
          have hf0 : ∀ a ∈ d :: G5.all, H a = none := fun a ha => by
            rcases List.mem_cons.mp ha with rfl | ha
            · exact hw.fr _ List.mem_cons_self
            · rcases hf5 a ha with g | g
              · exact hw.fr _ (List.mem_cons_of_mem _ g)
              · exact same_none hs04 g
          have hln5 : lc ∉ d :: G5.all := fun z => by
            rcases List.mem_cons.mp z with z | z
            · exact hw.ln (by rw [z]; exact List.mem_cons_self)
            · rcases hf5 lc z with g | g
              · exact hw.ln (List.mem_cons_of_mem _ g)
              · rw [hll4] at g; cases g
          walk_at "go"
          case hl => exact small64 (by rw [List.length_map]; omega)
          have hO6 : Off [lc] H5 (upd H5 lc (.lst (cs.map V.int ++ [.int (kk : Int)]))) := Off.upd (List.mem_singleton.mpr rfl)
          refine hR _ _ ⟨G5, L5, m + mm, cs ++ [(kk : Int)], _, _, rfl, ⟨hL5.off hO6 (TupS.upd hll5 fun _ z => by cases z) (fun a ha => by rw [List.mem_singleton.mp ha]; exact hln5), hf0, fun a o e => hO6.at (hO5.at (hs04 _ _ e) (fun z => by rw [hw.fr _ z] at e; cases e)) (fun z => by rw [List.mem_singleton.mp z, hw.lf] at e; cases e), ?_, hw.lf, hln5, hinv2, by omega⟩, hrd2, ?_, fun r w => ?_⟩
          · rw [List.map_append]
            exact upd_same
          · rw [List.length_append, List.length_singleton]
            omega
          · have := hW _ (Way.clr hrd hkm hclr w)
            rw [List.append_assoc, Int.add_assoc]
            exact this
      rintro σ' H1 ⟨G2, L2, m2, cs2, u8, u9, rfl, hw2, hrd2, hT2, hW2⟩
      obtain ⟨b', hlay, hinv', htot'⟩ := lay_ok hw2.inv hrd2 hx1
      walk_at "go"
      refine ⟨d, G2, L2, b', x1, rfl, hw2.at_, hlay, by have := hw2.sp; omega, fun L3 H3 hO3 hT3 hL3 hB3 hsp3 _ => ?_⟩
      subst hB3
      walk_at "go"
      refine ⟨G2, L3, m2, cs2, _, u8, u9, rfl, ⟨hL3, hw2.fr, fun a o e => hO3.at (hw2.sm _ _ e) (fun z => by rw [hw2.fr _ z] at e; cases e), hO3.at hw2.ll hw2.ln, hw2.lf, hw2.ln, hinv', by have := hw2.sp; omega⟩, by omega, fun r w => hW2 r (Way.put hrd2 hlay w)⟩
  · intro σ H' ⟨G', L, m, cs, v7, v8, v9, hσ, hw, hT, hW⟩
    subst hσ
    have hll := hw.ll
    walk_at "go"
    rename_i t H3 ht hs3 hn3
    have hdr : row.drop (row.map V.int).length = [] := List.drop_eq_nil_of_le (by rw [List.length_map]; exact Nat.le_refl _)
    rw [hdr] at hW
    have hWn := hW (0, []) (Way.nil _)
    rw [Int.add_zero, List.append_nil] at hWn
    exact q t lc (m, cs) H3 (hw.sm.trans hs3) hn3 (hs3 _ _ hll) hWn
/-! ### the law -/
theorem x_glst3 {K : PySem.W.Frag} {H : Hp} {σ : L2.St} {a : Addr} {i j k : Nat} {QS : L2.St → Hp → Prop} {x y z : V} (h : SqL K H a [x, y, z]) (q : QS (((σ.set i (some x)).set j (some y)).set k (some z)) H) : gLst K 3 (gCons (gName i) (gCons (gName j) (gCons (gName k) gNil))) (.ref a) σ H QS :=
  ⟨a, [x, y, z], rfl, h, rfl, x, [y, z], rfl, y, [z], rfl, z, [], rfl, rfl, q⟩
local macro_rules | `(tactic| walk_at "u") => `(tactic| (refine x_drawn (by walk_at "sq") (fun v => ?_) (by omega) (by omega) (by omega)))
def spLaw (K : PySem.W.Frag) : Sp := fun vs H Q _ => ∃ (a : Addr) (ns : List Int), vs = [.ref a] ∧ SqL K H a (ns.map V.int) ∧ ns.length ≤ 63 ∧ ∀ H', Q (.bl true) H'
theorem ok_law (T : Txt K mg) : FO P w K mg base 40 T.a_law T.fd_law ["_law_script"] (spLaw K) := by
  have sc := sc_law
  refine T.F_law.okX sc (fun vs H Q E h => ?_) (fun cdv A outer s H vs Q E hr h => ?_)
  · obtain ⟨_, _, rfl, _⟩ := h
    rfl
  obtain ⟨a, ns, rfl, hS, hl, q⟩ := h
  refine ⟨_, (pss_cons (ps_asg (pe_callS (ok_race T) (hr.mono (by decide)) (by rfl) T.g__law_race T.k__law_race T.bd__law_race (passAt (takes_of rfl rfl rfl rfl)) (pa_cons (pv 0) pa_nil)) (pg_lst (n := 3) (by rfl) (pgs_cons (pg_name (i := 1) sc.nd rfl (by first | exact Or.inl rfl | exact Or.inr rfl)) (pgs_cons (pg_name (i := 2) sc.nd rfl (by first | exact Or.inl rfl | exact Or.inr rfl)) (pgs_cons (pg_name (i := 3) sc.nd rfl (by first | exact Or.inl rfl | exact Or.inr rfl)) pgs_nil)))))
      (pss_cons (ps_set (i := 4) sc.nd rfl (by first | exact Or.inl rfl | exact Or.inr rfl) (pe_callS (ok_least_moves T) (hr.mono (by decide)) (by rfl) T.g_least_moves T.k_least_moves T.bd_least_moves (passAt (takes_of rfl rfl rfl rfl)) (pa_cons (pv 1) (pa_cons (pv 2) (pa_cons (pe_callTy ct_list (by rfl) T.b_list bt_list (pa_cons (pv 3) pa_nil)) pa_nil)))))
      (pss_cons (ps_for (passes_of rfl) rfl (pi_range1 (by rfl) T.b_range (pa_cons pe_int pa_nil)) (pg_name (i := 5) sc.nd rfl (by first | exact Or.inl rfl | exact Or.inr rfl)) (pss_cons (ps_setLc (i := 6) (own := [("_law_k", 7)]) (by rfl) sc.nd rfl rfl (sw_true rfl rfl rfl (by decide +kernel)) (pi_range1 (by rfl) T.b_range (pa_cons pe_int pa_nil)) (blkOk_by (own := [("_law_k", 7)]) (N := N_law) (sc := defScope s_law) (by decide +kernel)) (fun _ _ _ _ _ => (pg_name (i := 7) sc.nd rfl (by first | exact Or.inl rfl | exact Or.inr rfl))) (fun _ _ _ _ _ => pts_nil) (fun _ _ _ _ _ => (pe_callS (ok_drawn T) (hr.mono (by decide)) (by rfl) T.g__law_drawn T.k__law_drawn T.bd__law_drawn passL2 (pa_cons (pv 0) (pa_cons (pe_op (K_add (K := K)) (pe_op (K_add (K := K)) pe_int (pe_op op_uMul pe_int (pv 5))) (pv 7)) pa_nil)))))
      (pss_one (ps_if (pt_cmpR (op_ltP hr.units) (pe_callS (ok_way T) (hr.mono (by decide)) (by rfl) T.g__law_way T.k__law_way T.bd__law_way (passAt (takes_of rfl rfl rfl rfl)) (pa_cons (pv 1) (pa_cons (pv 2) (pa_cons (pv 3) (pa_cons (pv 6) pa_nil))))) (pv 4) (nomark _)) (pss_one (ps_ret pe_bl)) pss_nil))))
      (pss_one (ps_ret pe_bl))))), ?_⟩
  walk_at "begin"
  walk_at "go"
  refine x_race (by walk_at "sq") hl fun t l n p row sh H1 hn hp hnp hrl hb hrow hsh hs1 ht hlr => ?_
  refine x_glst3 (SqL.of ht) ?_
  dsimp only [List.set]
  have hle : ((n : Int) - 1) * p ≤ 3 * 3 := Int.mul_le_mul (by omega) hp.2 (by omega) (by decide)
  obtain ⟨hI, hR0⟩ := newB_inv (s := sh) hn hp
  obtain ⟨res, hres, hmin⟩ := least_ok (n := n) (p := p) (s := sh) (by omega) 19 (newB n p) row hI hR0 hrow (by omega)
  have hS1 := hs1.seq hS
  walk_at "go"
  rename_i l2 H2 hl2 hs2 hn2
  refine ⟨l2, row, sh, n, p, res, rfl, hn2, hn, hp, hnp, hrl, hb, hrow, hsh, hres, fun t2 H3 hs3 hra => ?_⟩
  obtain ⟨_, lf, e1, hta, htl⟩ := hra
  cases e1
  have hlr3 := hs3 _ _ (hs2 _ _ hlr)
  have hS3 := hs3.seq (hs2.seq hS1)
  walk_at "go"
  refine x_frR1 ⟨by omega, by omega⟩ (fun i σ H' => ∃ v5 v6 : Option V, σ = [some (.ref a), some (.int (n : Int)), some (.int p), some (.ref l), some (.ref t2), v5, v6, none] ∧ Same H3 H') ⟨none, none, rfl, fun _ _ h => h⟩ ?_ ?_
  · intro i σ H' hi ⟨v5, v6, hσ, hs⟩
    subst hσ
    have hlr' := hs _ _ hlr3
    have hS' := hs.seq hS3
    have hta' := hs _ _ hta
    have htl' := hs _ _ htl
    walk_at "go"
    refine x_lcR1K (fun i acc H' => ∃ picks : List Int, acc = picks.map V.int ∧ picks.length = i) (fun i acc H H' _ h => h) ⟨by omega, by omega⟩ ⟨[], rfl, rfl⟩ ?_ ?_
    · intro j acc H4 hj hs4 ⟨picks, ha, hpl⟩ NY NN hY hN
      have hS4 := hs4.seq hS'
      dsimp only [wipe]
      walk_at "go"
      refine ⟨rfl, ?_⟩
      walk_at "go"
      rename_i vv
      refine hY _ _ (fun _ _ h => h) ⟨picks ++ [vv], ?_, ?_⟩
      · rw [ha, List.map_append]
        rfl
      · rw [List.length_append, hpl]
        rfl
    rintro pk acc H4 hpk hs4 hn4 ⟨picks, rfl, hpl⟩
    walk_at "go"
    refine ⟨n, p, l, pk, row, picks, sh, rfl, hs4 _ _ hlr', hn4, hpl, hn, hp, hnp, hrl, hrow, by omega, fun tw lw r H5 hs5 htw hlw hW => ?_⟩
    walk_at "go"
    refine x_ltP (SqT.of htw) (SqL.of hlw) (SqT.of (hs5 _ _ (hs4 _ _ hta'))) (SqL.of (hs5 _ _ (hs4 _ _ htl'))) ?_
    have hm := hmin r hW
    unfold rkI at hm
    rw [hm]
    walk_at "go"
    exact ⟨_, _, rfl, hs.trans (hs4.trans hs5)⟩
  · intro σ H' ⟨v5, v6, hσ, hs⟩
    subst hσ
    walk_at "go"
    exact q _
end
theorem txt_of {l : PySem.W.OpenLaw} {w : World} {K : PySem.W.Frag} {h : Heap} {mg : Str → Option Value} {fa : Addr} {A : List Addr} (X : K.In h) (G : h.Ns mainGlobals mg) (hfa : mg "law" = some (.ref fa)) (c : SaysK fsK fnK K A) :
    ∃ fd : FuncData, (∀ (s : Shared) (v : Value), BindsTo s fd ⟨[v], []⟩ [("_law_script", v)]) ∧ ∀ base : Heap, K.In base → base.Ns mainGlobals mg → FnOk l.prog w K mg base (L2.CX l.prog w) 40 fa fd ["_law_script"] (spLaw K) := by
  have hh := c.facts
  unfold fsK at hh
  obtain ⟨hc0, hh⟩ := He.ba hh
  obtain ⟨a_is_whole, a_is_within, a_need_sheets, a_need_race, a_least_from, a_least_moves, a__law_drawn, a__law_race, a__law_new, a__law_put, a__law_live, a__law_short, a__law_ways, a__law_cleared_out, a__law_way, a_law, aC_Bench, pg_Bench, hd_Bench, po_Bench, sa_Bench, na_Bench_pages, na_Bench_stacks, na_Bench_times, at_Bench_init⟩ := fsK0_ok hc0
  obtain ⟨hc1, hh⟩ := He.ba hh
  obtain ⟨fn_Bench_init, mi_Bench, kc_Bench, at_Bench_copied, fn_Bench_copied, at_Bench_empty_ones, fn_Bench_empty_ones, at_Bench_begun, fn_Bench_begun, at_Bench_is_ready, fn_Bench_is_ready, at_Bench_lay_down, fn_Bench_lay_down, at_Bench_choices, fn_Bench_choices, at_Bench_clear_out, fn_Bench_clear_out, aC_WornError, xq_WornError, xk_WornError, xr_WornError, xt_WornError, aC_NoRace, xq_NoRace, xk_NoRace⟩ := fsK1_ok hc1
  obtain ⟨xr_NoRace, xt_NoRace, z_len, z_isinstance, z_sorted, z_int, z_list, z_bool, z_set, z_range, z_enumerate, z_ValueError⟩ := fsK2_ok hh
  have e := hfa.symm.trans (PySem.W.mg_of X G a_law)
  cases e
  obtain ⟨fd_is_whole, D_is_whole⟩ := c.def_ 0 (d := ⟨8, "is_whole", "is_whole", defArgs s_is_whole, defBody s_is_whole, defScope s_is_whole, []⟩) rfl
  have k_is_whole : PySem.W.keepIn K (.ref (A.getD 8 0)) = true := D_is_whole.kp
  have F_is_whole : Fun K "is_whole" "is_whole" s_is_whole (A.getD 8 0) fd_is_whole := funK_of D_is_whole
  have b_is_whole := F_is_whole.binds (ps := ["thing"]) fun _ _ _ _ _ _ us hl => match us, hl with | [_], _ => rfl
  obtain ⟨fd_is_within, D_is_within⟩ := c.def_ 1 (d := ⟨9, "is_within", "is_within", defArgs s_is_within, defBody s_is_within, defScope s_is_within, []⟩) rfl
  have k_is_within : PySem.W.keepIn K (.ref (A.getD 9 0)) = true := D_is_within.kp
  have F_is_within : Fun K "is_within" "is_within" s_is_within (A.getD 9 0) fd_is_within := funK_of D_is_within
  have b_is_within := F_is_within.binds (ps := ["thing", "low", "high"]) fun _ _ _ _ _ _ us hl => match us, hl with | [_, _, _], _ => rfl
  obtain ⟨fd_need_sheets, D_need_sheets⟩ := c.def_ 2 (d := ⟨10, "need_sheets", "need_sheets", defArgs s_need_sheets, defBody s_need_sheets, defScope s_need_sheets, []⟩) rfl
  have k_need_sheets : PySem.W.keepIn K (.ref (A.getD 10 0)) = true := D_need_sheets.kp
  have F_need_sheets : Fun K "need_sheets" "need_sheets" s_need_sheets (A.getD 10 0) fd_need_sheets := funK_of D_need_sheets
  have b_need_sheets := F_need_sheets.binds (ps := ["row", "many"]) fun _ _ _ _ _ _ us hl => match us, hl with | [_, _], _ => rfl
  obtain ⟨fd_need_race, D_need_race⟩ := c.def_ 3 (d := ⟨11, "need_race", "need_race", defArgs s_need_race, defBody s_need_race, defScope s_need_race, []⟩) rfl
  have k_need_race : PySem.W.keepIn K (.ref (A.getD 11 0)) = true := D_need_race.kp
  have F_need_race : Fun K "need_race" "need_race" s_need_race (A.getD 11 0) fd_need_race := funK_of D_need_race
  have b_need_race := F_need_race.binds (ps := ["blocks", "pages", "row", "more"]) fun _ _ _ _ _ _ us hl => match us, hl with | [_, _, _, _], _ => rfl
  obtain ⟨fd_Bench_init, D_Bench_init⟩ := c.def_ 4 (d := ⟨12, "__init__", "Bench.__init__", defArgs s_Bench_init, defBody s_Bench_init, defScope s_Bench_init, []⟩) rfl
  have k_Bench_init : PySem.W.keepIn K (.ref (A.getD 12 0)) = true := D_Bench_init.kp
  have F_Bench_init : Fun K "__init__" "Bench.__init__" s_Bench_init (A.getD 12 0) fd_Bench_init := funK_of D_Bench_init
  have b_Bench_init := F_Bench_init.binds (ps := ["self", "blocks", "pages"]) fun _ _ _ _ _ _ us hl => match us, hl with | [_, _, _], _ => rfl
  obtain ⟨fd_Bench_copied, D_Bench_copied⟩ := c.def_ 5 (d := ⟨13, "copied", "Bench.copied", defArgs s_Bench_copied, defBody s_Bench_copied, defScope s_Bench_copied, []⟩) rfl
  have k_Bench_copied : PySem.W.keepIn K (.ref (A.getD 13 0)) = true := D_Bench_copied.kp
  have F_Bench_copied : Fun K "copied" "Bench.copied" s_Bench_copied (A.getD 13 0) fd_Bench_copied := funK_of D_Bench_copied
  have b_Bench_copied := F_Bench_copied.binds (ps := ["self"]) fun _ _ _ _ _ _ us hl => match us, hl with | [_], _ => rfl
  obtain ⟨fd_Bench_empty_ones, D_Bench_empty_ones⟩ := c.def_ 6 (d := ⟨14, "empty_ones", "Bench.empty_ones", defArgs s_Bench_empty_ones, defBody s_Bench_empty_ones, defScope s_Bench_empty_ones, []⟩) rfl
  have k_Bench_empty_ones : PySem.W.keepIn K (.ref (A.getD 14 0)) = true := D_Bench_empty_ones.kp
  have F_Bench_empty_ones : Fun K "empty_ones" "Bench.empty_ones" s_Bench_empty_ones (A.getD 14 0) fd_Bench_empty_ones := funK_of D_Bench_empty_ones
  have b_Bench_empty_ones := F_Bench_empty_ones.binds (ps := ["self"]) fun _ _ _ _ _ _ us hl => match us, hl with | [_], _ => rfl
  obtain ⟨fd_Bench_begun, D_Bench_begun⟩ := c.def_ 7 (d := ⟨15, "begun", "Bench.begun", defArgs s_Bench_begun, defBody s_Bench_begun, defScope s_Bench_begun, []⟩) rfl
  have k_Bench_begun : PySem.W.keepIn K (.ref (A.getD 15 0)) = true := D_Bench_begun.kp
  have F_Bench_begun : Fun K "begun" "Bench.begun" s_Bench_begun (A.getD 15 0) fd_Bench_begun := funK_of D_Bench_begun
  have b_Bench_begun := F_Bench_begun.binds (ps := ["self"]) fun _ _ _ _ _ _ us hl => match us, hl with | [_], _ => rfl
  obtain ⟨fd_Bench_is_ready, D_Bench_is_ready⟩ := c.def_ 8 (d := ⟨16, "is_ready", "Bench.is_ready", defArgs s_Bench_is_ready, defBody s_Bench_is_ready, defScope s_Bench_is_ready, []⟩) rfl
  have k_Bench_is_ready : PySem.W.keepIn K (.ref (A.getD 16 0)) = true := D_Bench_is_ready.kp
  have F_Bench_is_ready : Fun K "is_ready" "Bench.is_ready" s_Bench_is_ready (A.getD 16 0) fd_Bench_is_ready := funK_of D_Bench_is_ready
  have b_Bench_is_ready := F_Bench_is_ready.binds (ps := ["self"]) fun _ _ _ _ _ _ us hl => match us, hl with | [_], _ => rfl
  obtain ⟨fd_Bench_lay_down, D_Bench_lay_down⟩ := c.def_ 9 (d := ⟨17, "lay_down", "Bench.lay_down", defArgs s_Bench_lay_down, defBody s_Bench_lay_down, defScope s_Bench_lay_down, []⟩) rfl
  have k_Bench_lay_down : PySem.W.keepIn K (.ref (A.getD 17 0)) = true := D_Bench_lay_down.kp
  have F_Bench_lay_down : Fun K "lay_down" "Bench.lay_down" s_Bench_lay_down (A.getD 17 0) fd_Bench_lay_down := funK_of D_Bench_lay_down
  have b_Bench_lay_down := F_Bench_lay_down.binds (ps := ["self", "sheet"]) fun _ _ _ _ _ _ us hl => match us, hl with | [_, _], _ => rfl
  obtain ⟨fd_Bench_choices, D_Bench_choices⟩ := c.def_ 10 (d := ⟨18, "choices", "Bench.choices", defArgs s_Bench_choices, defBody s_Bench_choices, defScope s_Bench_choices, []⟩) rfl
  have k_Bench_choices : PySem.W.keepIn K (.ref (A.getD 18 0)) = true := D_Bench_choices.kp
  have F_Bench_choices : Fun K "choices" "Bench.choices" s_Bench_choices (A.getD 18 0) fd_Bench_choices := funK_of D_Bench_choices
  have b_Bench_choices := F_Bench_choices.binds (ps := ["self"]) fun _ _ _ _ _ _ us hl => match us, hl with | [_], _ => rfl
  obtain ⟨fd_Bench_clear_out, D_Bench_clear_out⟩ := c.def_ 11 (d := ⟨19, "clear_out", "Bench.clear_out", defArgs s_Bench_clear_out, defBody s_Bench_clear_out, defScope s_Bench_clear_out, []⟩) rfl
  have k_Bench_clear_out : PySem.W.keepIn K (.ref (A.getD 19 0)) = true := D_Bench_clear_out.kp
  have F_Bench_clear_out : Fun K "clear_out" "Bench.clear_out" s_Bench_clear_out (A.getD 19 0) fd_Bench_clear_out := funK_of D_Bench_clear_out
  have b_Bench_clear_out := F_Bench_clear_out.binds (ps := ["self", "block"]) fun _ _ _ _ _ _ us hl => match us, hl with | [_, _], _ => rfl
  obtain ⟨fd_least_from, D_least_from⟩ := c.def_ 12 (d := ⟨20, "least_from", "least_from", defArgs s_least_from, defBody s_least_from, defScope s_least_from, []⟩) rfl
  have k_least_from : PySem.W.keepIn K (.ref (A.getD 20 0)) = true := D_least_from.kp
  have F_least_from : Fun K "least_from" "least_from" s_least_from (A.getD 20 0) fd_least_from := funK_of D_least_from
  have b_least_from := F_least_from.binds (ps := ["bench", "row"]) fun _ _ _ _ _ _ us hl => match us, hl with | [_, _], _ => rfl
  obtain ⟨fd_least_moves, D_least_moves⟩ := c.def_ 13 (d := ⟨21, "least_moves", "least_moves", defArgs s_least_moves, defBody s_least_moves, defScope s_least_moves, []⟩) rfl
  have k_least_moves : PySem.W.keepIn K (.ref (A.getD 21 0)) = true := D_least_moves.kp
  have F_least_moves : Fun K "least_moves" "least_moves" s_least_moves (A.getD 21 0) fd_least_moves := funK_of D_least_moves
  have b_least_moves := F_least_moves.binds (ps := ["blocks", "pages", "row"]) fun _ _ _ _ _ _ us hl => match us, hl with | [_, _, _], _ => rfl
  obtain ⟨fd__law_drawn, D__law_drawn⟩ := c.def_ 14 (d := ⟨22, "_law_drawn", "_law_drawn", defArgs s__law_drawn, defBody s__law_drawn, defScope s__law_drawn, []⟩) rfl
  have k__law_drawn : PySem.W.keepIn K (.ref (A.getD 22 0)) = true := D__law_drawn.kp
  have F__law_drawn : Fun K "_law_drawn" "_law_drawn" s__law_drawn (A.getD 22 0) fd__law_drawn := funK_of D__law_drawn
  have b__law_drawn := F__law_drawn.binds (ps := ["_law_script", "_law_k"]) fun _ _ _ _ _ _ us hl => match us, hl with | [_, _], _ => rfl
  obtain ⟨fd__law_race, D__law_race⟩ := c.def_ 15 (d := ⟨23, "_law_race", "_law_race", defArgs s__law_race, defBody s__law_race, defScope s__law_race, []⟩) rfl
  have k__law_race : PySem.W.keepIn K (.ref (A.getD 23 0)) = true := D__law_race.kp
  have F__law_race : Fun K "_law_race" "_law_race" s__law_race (A.getD 23 0) fd__law_race := funK_of D__law_race
  have b__law_race := F__law_race.binds (ps := ["_law_script"]) fun _ _ _ _ _ _ us hl => match us, hl with | [_], _ => rfl
  obtain ⟨fd__law_new, D__law_new⟩ := c.def_ 16 (d := ⟨24, "_law_new", "_law_new", defArgs s__law_new, defBody s__law_new, defScope s__law_new, []⟩) rfl
  have k__law_new : PySem.W.keepIn K (.ref (A.getD 24 0)) = true := D__law_new.kp
  have F__law_new : Fun K "_law_new" "_law_new" s__law_new (A.getD 24 0) fd__law_new := funK_of D__law_new
  have b__law_new := F__law_new.binds (ps := ["_law_blocks", "_law_pages"]) fun _ _ _ _ _ _ us hl => match us, hl with | [_, _], _ => rfl
  obtain ⟨fd__law_put, D__law_put⟩ := c.def_ 17 (d := ⟨25, "_law_put", "_law_put", defArgs s__law_put, defBody s__law_put, defScope s__law_put, []⟩) rfl
  have k__law_put : PySem.W.keepIn K (.ref (A.getD 25 0)) = true := D__law_put.kp
  have F__law_put : Fun K "_law_put" "_law_put" s__law_put (A.getD 25 0) fd__law_put := funK_of D__law_put
  have b__law_put := F__law_put.binds (ps := ["_law_state", "_law_sheet"]) fun _ _ _ _ _ _ us hl => match us, hl with | [_, _], _ => rfl
  obtain ⟨fd__law_live, D__law_live⟩ := c.def_ 18 (d := ⟨26, "_law_live", "_law_live", defArgs s__law_live, defBody s__law_live, defScope s__law_live, []⟩) rfl
  have k__law_live : PySem.W.keepIn K (.ref (A.getD 26 0)) = true := D__law_live.kp
  have F__law_live : Fun K "_law_live" "_law_live" s__law_live (A.getD 26 0) fd__law_live := funK_of D__law_live
  have b__law_live := F__law_live.binds (ps := ["_law_state", "_law_block"]) fun _ _ _ _ _ _ us hl => match us, hl with | [_, _], _ => rfl
  obtain ⟨fd__law_short, D__law_short⟩ := c.def_ 19 (d := ⟨27, "_law_short", "_law_short", defArgs s__law_short, defBody s__law_short, defScope s__law_short, []⟩) rfl
  have k__law_short : PySem.W.keepIn K (.ref (A.getD 27 0)) = true := D__law_short.kp
  have F__law_short : Fun K "_law_short" "_law_short" s__law_short (A.getD 27 0) fd__law_short := funK_of D__law_short
  have b__law_short := F__law_short.binds (ps := ["_law_state"]) fun _ _ _ _ _ _ us hl => match us, hl with | [_], _ => rfl
  obtain ⟨fd__law_ways, D__law_ways⟩ := c.def_ 20 (d := ⟨28, "_law_ways", "_law_ways", defArgs s__law_ways, defBody s__law_ways, defScope s__law_ways, []⟩) rfl
  have k__law_ways : PySem.W.keepIn K (.ref (A.getD 28 0)) = true := D__law_ways.kp
  have F__law_ways : Fun K "_law_ways" "_law_ways" s__law_ways (A.getD 28 0) fd__law_ways := funK_of D__law_ways
  have b__law_ways := F__law_ways.binds (ps := ["_law_state"]) fun _ _ _ _ _ _ us hl => match us, hl with | [_], _ => rfl
  obtain ⟨fd__law_cleared_out, D__law_cleared_out⟩ := c.def_ 21 (d := ⟨29, "_law_cleared_out", "_law_cleared_out", defArgs s__law_cleared_out, defBody s__law_cleared_out, defScope s__law_cleared_out, []⟩) rfl
  have k__law_cleared_out : PySem.W.keepIn K (.ref (A.getD 29 0)) = true := D__law_cleared_out.kp
  have F__law_cleared_out : Fun K "_law_cleared_out" "_law_cleared_out" s__law_cleared_out (A.getD 29 0) fd__law_cleared_out := funK_of D__law_cleared_out
  have b__law_cleared_out := F__law_cleared_out.binds (ps := ["_law_state", "_law_block"]) fun _ _ _ _ _ _ us hl => match us, hl with | [_, _], _ => rfl
  obtain ⟨fd__law_way, D__law_way⟩ := c.def_ 22 (d := ⟨30, "_law_way", "_law_way", defArgs s__law_way, defBody s__law_way, defScope s__law_way, []⟩) rfl
  have k__law_way : PySem.W.keepIn K (.ref (A.getD 30 0)) = true := D__law_way.kp
  have F__law_way : Fun K "_law_way" "_law_way" s__law_way (A.getD 30 0) fd__law_way := funK_of D__law_way
  have b__law_way := F__law_way.binds (ps := ["_law_blocks", "_law_pages", "_law_row", "_law_picks"]) fun _ _ _ _ _ _ us hl => match us, hl with | [_, _, _, _], _ => rfl
  obtain ⟨fd_law, D_law⟩ := c.def_ 23 (d := ⟨31, "law", "law", defArgs s_law, defBody s_law, defScope s_law, []⟩) rfl
  have k_law : PySem.W.keepIn K (.ref (A.getD 31 0)) = true := D_law.kp
  have F_law : Fun K "law" "law" s_law (A.getD 31 0) fd_law := funK_of D_law
  have b_law := F_law.binds (ps := ["_law_script"]) fun _ _ _ _ _ _ us hl => match us, hl with | [_], _ => rfl
  let T : Txt K mg := {
    a_is_whole := (A.getD 8 0)
    fd_is_whole := fd_is_whole
    F_is_whole := F_is_whole
    bd_is_whole := b_is_whole
    k_is_whole := k_is_whole
    g_is_whole := PySem.W.mg_of X G a_is_whole
    a_is_within := (A.getD 9 0)
    fd_is_within := fd_is_within
    F_is_within := F_is_within
    bd_is_within := b_is_within
    k_is_within := k_is_within
    g_is_within := PySem.W.mg_of X G a_is_within
    a_need_sheets := (A.getD 10 0)
    fd_need_sheets := fd_need_sheets
    F_need_sheets := F_need_sheets
    bd_need_sheets := b_need_sheets
    k_need_sheets := k_need_sheets
    g_need_sheets := PySem.W.mg_of X G a_need_sheets
    a_need_race := (A.getD 11 0)
    fd_need_race := fd_need_race
    F_need_race := F_need_race
    bd_need_race := b_need_race
    k_need_race := k_need_race
    g_need_race := PySem.W.mg_of X G a_need_race
    a_Bench_init := (A.getD 12 0)
    fd_Bench_init := fd_Bench_init
    F_Bench_init := F_Bench_init
    bd_Bench_init := b_Bench_init
    k_Bench_init := k_Bench_init
    a_Bench_copied := (A.getD 13 0)
    fd_Bench_copied := fd_Bench_copied
    F_Bench_copied := F_Bench_copied
    bd_Bench_copied := b_Bench_copied
    k_Bench_copied := k_Bench_copied
    a_Bench_empty_ones := (A.getD 14 0)
    fd_Bench_empty_ones := fd_Bench_empty_ones
    F_Bench_empty_ones := F_Bench_empty_ones
    bd_Bench_empty_ones := b_Bench_empty_ones
    k_Bench_empty_ones := k_Bench_empty_ones
    a_Bench_begun := (A.getD 15 0)
    fd_Bench_begun := fd_Bench_begun
    F_Bench_begun := F_Bench_begun
    bd_Bench_begun := b_Bench_begun
    k_Bench_begun := k_Bench_begun
    a_Bench_is_ready := (A.getD 16 0)
    fd_Bench_is_ready := fd_Bench_is_ready
    F_Bench_is_ready := F_Bench_is_ready
    bd_Bench_is_ready := b_Bench_is_ready
    k_Bench_is_ready := k_Bench_is_ready
    a_Bench_lay_down := (A.getD 17 0)
    fd_Bench_lay_down := fd_Bench_lay_down
    F_Bench_lay_down := F_Bench_lay_down
    bd_Bench_lay_down := b_Bench_lay_down
    k_Bench_lay_down := k_Bench_lay_down
    a_Bench_choices := (A.getD 18 0)
    fd_Bench_choices := fd_Bench_choices
    F_Bench_choices := F_Bench_choices
    bd_Bench_choices := b_Bench_choices
    k_Bench_choices := k_Bench_choices
    a_Bench_clear_out := (A.getD 19 0)
    fd_Bench_clear_out := fd_Bench_clear_out
    F_Bench_clear_out := F_Bench_clear_out
    bd_Bench_clear_out := b_Bench_clear_out
    k_Bench_clear_out := k_Bench_clear_out
    a_least_from := (A.getD 20 0)
    fd_least_from := fd_least_from
    F_least_from := F_least_from
    bd_least_from := b_least_from
    k_least_from := k_least_from
    g_least_from := PySem.W.mg_of X G a_least_from
    a_least_moves := (A.getD 21 0)
    fd_least_moves := fd_least_moves
    F_least_moves := F_least_moves
    bd_least_moves := b_least_moves
    k_least_moves := k_least_moves
    g_least_moves := PySem.W.mg_of X G a_least_moves
    a__law_drawn := (A.getD 22 0)
    fd__law_drawn := fd__law_drawn
    F__law_drawn := F__law_drawn
    bd__law_drawn := b__law_drawn
    k__law_drawn := k__law_drawn
    g__law_drawn := PySem.W.mg_of X G a__law_drawn
    a__law_race := (A.getD 23 0)
    fd__law_race := fd__law_race
    F__law_race := F__law_race
    bd__law_race := b__law_race
    k__law_race := k__law_race
    g__law_race := PySem.W.mg_of X G a__law_race
    a__law_new := (A.getD 24 0)
    fd__law_new := fd__law_new
    F__law_new := F__law_new
    bd__law_new := b__law_new
    k__law_new := k__law_new
    g__law_new := PySem.W.mg_of X G a__law_new
    a__law_put := (A.getD 25 0)
    fd__law_put := fd__law_put
    F__law_put := F__law_put
    bd__law_put := b__law_put
    k__law_put := k__law_put
    g__law_put := PySem.W.mg_of X G a__law_put
    a__law_live := (A.getD 26 0)
    fd__law_live := fd__law_live
    F__law_live := F__law_live
    bd__law_live := b__law_live
    k__law_live := k__law_live
    g__law_live := PySem.W.mg_of X G a__law_live
    a__law_short := (A.getD 27 0)
    fd__law_short := fd__law_short
    F__law_short := F__law_short
    bd__law_short := b__law_short
    k__law_short := k__law_short
    g__law_short := PySem.W.mg_of X G a__law_short
    a__law_ways := (A.getD 28 0)
    fd__law_ways := fd__law_ways
    F__law_ways := F__law_ways
    bd__law_ways := b__law_ways
    k__law_ways := k__law_ways
    g__law_ways := PySem.W.mg_of X G a__law_ways
    a__law_cleared_out := (A.getD 29 0)
    fd__law_cleared_out := fd__law_cleared_out
    F__law_cleared_out := F__law_cleared_out
    bd__law_cleared_out := b__law_cleared_out
    k__law_cleared_out := k__law_cleared_out
    g__law_cleared_out := PySem.W.mg_of X G a__law_cleared_out
    a__law_way := (A.getD 30 0)
    fd__law_way := fd__law_way
    F__law_way := F__law_way
    bd__law_way := b__law_way
    k__law_way := k__law_way
    g__law_way := PySem.W.mg_of X G a__law_way
    a_law := (A.getD 31 0)
    fd_law := fd_law
    F_law := F_law
    bd_law := b_law
    k_law := k_law
    C_Bench := (A.getD 2 0)
    g_Bench := PySem.W.mg_of X G aC_Bench
    cl_Bench := ⟨pg_Bench, hd_Bench, po_Bench, sa_Bench⟩
    na_Bench_pages := na_Bench_pages
    na_Bench_stacks := na_Bench_stacks
    na_Bench_times := na_Bench_times
    mk_Bench := ⟨mi_Bench, at_Bench_init, fn_Bench_init, kc_Bench⟩
    m_Bench_copied := ⟨at_Bench_copied, fn_Bench_copied, k_Bench_copied⟩
    m_Bench_empty_ones := ⟨at_Bench_empty_ones, fn_Bench_empty_ones, k_Bench_empty_ones⟩
    m_Bench_begun := ⟨at_Bench_begun, fn_Bench_begun, k_Bench_begun⟩
    m_Bench_is_ready := ⟨at_Bench_is_ready, fn_Bench_is_ready, k_Bench_is_ready⟩
    m_Bench_lay_down := ⟨at_Bench_lay_down, fn_Bench_lay_down, k_Bench_lay_down⟩
    m_Bench_choices := ⟨at_Bench_choices, fn_Bench_choices, k_Bench_choices⟩
    m_Bench_clear_out := ⟨at_Bench_clear_out, fn_Bench_clear_out, k_Bench_clear_out⟩
    C_WornError := (A.getD 3 0)
    g_WornError := PySem.W.mg_of X G aC_WornError
    xc_WornError := ⟨xq_WornError, xk_WornError, xr_WornError, xt_WornError⟩
    C_NoRace := (A.getD 4 0)
    g_NoRace := PySem.W.mg_of X G aC_NoRace
    xc_NoRace := ⟨xq_NoRace, xk_NoRace, xr_NoRace, xt_NoRace⟩
    b_len := PySem.W.mg_none_of X G z_len
    b_isinstance := PySem.W.mg_none_of X G z_isinstance
    b_sorted := PySem.W.mg_none_of X G z_sorted
    b_int := PySem.W.mg_none_of X G z_int
    b_list := PySem.W.mg_none_of X G z_list
    b_bool := PySem.W.mg_none_of X G z_bool
    b_set := PySem.W.mg_none_of X G z_set
    b_range := PySem.W.mg_none_of X G z_range
    b_enumerate := PySem.W.mg_none_of X G z_enumerate
    b_ValueError := PySem.W.mg_none_of X G z_ValueError }
  have bl : ∀ (s : Shared) (v : Value), BindsTo s fd_law ⟨[v], []⟩ [("_law_script", v)] := fun s v => by
    have bb := D_law.bindsA (ps := ["_law_script"]) (fun _ _ _ _ _ _ us hl => match us, hl with | [_], _ => rfl) s [v] rfl
    exact bb
  exact ⟨T.fd_law, bl, fun base _ _ => ok_law T⟩
end My
theorem PySem.Challenge.cw_wornpages_k73_whole_no_way_is_less_holds : PySem.Challenge.rw_wornpages_k73_whole_no_way_is_less.Holds :=
  My.finE fun X G hfa c => My.txt_of X G hfa c
#print axioms PySem.Challenge.cw_wornpages_k73_whole_no_way_is_less_holds
