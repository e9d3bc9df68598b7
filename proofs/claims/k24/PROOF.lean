import PyProof.Rows.All
import Wide.All
import OpenK.AllK
import Wide.FinOn
import HandS.ForMost
import HandS.ForExc
import HandS.Flow
import HandS.Wide
import HandS.WideBits
import HandS.IsInst
import HandS.ExcInit
import HandS.ExcField
import HandS.ExcIs
import HandS.TryMany
import HandS.SetKeys
import HandS.More
import HandS.Deep
import HandS.TupSets
import HandS.SortRule
import HandS.SortInts
import HandS.Walk
import HandS.RevTup
import HandS.Rev
import HandS.Conv
import HandS.WordsDict
import HandS.Style
import HandS.HeadHook2
import HandS.DictTup
import HandS.SortKw
import KE.DataMinMax
import KE.GoesMore
import HandS.HotCalls
import HandS.SuiteRaise
import HandS.SetFor
import HandS.Strs
import HandS.ExcValue
import HandS.Head0
import HandS.Head1
import HandS.Head2
import HandS.HeadEnd
import HandS.HeadHook1
import HandS.Lambda
import HandS.EndTab
import PySem.Challenge.RW_wornpages_k24_weighed
set_option Elab.async false
set_option linter.all false
set_option maxRecDepth 100000
set_option maxHeartbeats 4000000
/-! Kit: unified operators, method calls by the receiver's class, and step lemmas for readings. -/
namespace Kit
open PySem PySem.Spec PyProof.Rows L2
section
variable {X : Cx}
/-! ### unified operators -/
abbrev rStrAdd : R2 := fun x y H Q => ∃ i j, x = .str i ∧ y = .str j ∧ i.length + j.length ≤ sizeLine ∧ Q (.str (i ++ j)) H
def uAdd (K : PySem.W.Frag) : R2 := fun x y H Q => rI0 (fun i j => .int (i + j)) x y H Q ∨ (rStrAdd x y H Q ∨ (rCat x y H Q ∨ rCatT K x y H Q))
theorem op_uAdd : OpR X (binaryOp .Add) (uAdd X.K) := op_add.or (op_add_str.or (op_cat.or op_catT))
def uMul : R2 := fun x y H Q => rI CMul (fun i j => .int (i * j)) x y H Q ∨ (rRep x y H Q ∨ rI CMulW (fun i j => .int (i * j)) x y H Q)
theorem op_uMul : OpR X (binaryOp .Mult) uMul := op_mul.or (op_rep.or op_mulW)
def uShl : R2 := rI CShl fun i j => .int (i * 2 ^ j.toNat)
def uEq (K : PySem.W.Frag) : R2 := fun x y H Q => rEq x y H Q ∨ rEqD K x y H Q
theorem op_uEq (hu : X.A.units + 64 < cLine) : OpR X (compareOp .Eq) (uEq X.K) := op_eq.or (op_eqD hu)
def uNe (K : PySem.W.Frag) : R2 := fun x y H Q => rNe x y H Q ∨ rNeD K x y H Q
theorem op_uNe (hu : X.A.units + 64 < cLine) : OpR X (compareOp .NotEq) (uNe X.K) := op_ne.or (op_neD hu)
abbrev rLtI : R2 := rI0 fun i j => .bl (decide (i < j))
def uLt : R2 := rLtI
theorem op_uLt : OpR X (compareOp .Lt) uLt := op_lt
def uIn (K : PySem.W.Frag) : R2 := rIn K false
def uNotIn (K : PySem.W.Frag) : R2 := rIn K true
abbrev rIsNon : R2 := fun x y H Q => y = .non ∧ Q (.bl (decide (x = .non))) H
abbrev rIsNotNon : R2 := fun x y H Q => y = .non ∧ Q (.bl (!decide (x = .non))) H
def uIs : R2 := fun x y H Q => rIsNon x y H Q ∨ rIsB x y H Q
def uIsNot : R2 := fun x y H Q => rIsNotNon x y H Q ∨ rNotB x y H Q
/-! ### calls -/
theorem passL2 : ∀ σ, PassesAt (L2.CX X.prog X.w) X σ ((fun _ => E0) σ) := fun _ _ _ _ _ _ _ h => by
  obtain ⟨_, _, _, _, _, _, _, _, _, _, _, _, z⟩ := h
  exact z.elim
/-- a method of a class, by what it promises -/
structure MO (P : Program) (w : World) (K : PySem.W.Frag) (mg : Str → Option Value) (base : Heap) (CX : CXT) (n : Nat) (C : Addr) (m : Str) (sp : Sp) : Prop where
  ex : ∃ f fd ps, Cls K C ∧ Meth K C m f ∧ FnOk P w K mg base CX n f fd ps sp ∧ Binds K fd ps []
variable {CX : CXT} {k : Nat} {f C : Addr} {fd : FuncData} {ps : List Str} {sp : Sp} {dvs : List V} {ds : List Value} {E : L2.St → XK} {x m : Str} {p pos apos : Pos} {e o : Expr} {es : List Expr} {ta : TE} {t : TA}
/-- o.m(..), by the class that o has -/
def mtK (P : Program) (w : World) (K : PySem.W.Frag) (mg : Str → Option Value) (base : Heap) (CX : CXT) (n : Nat) (m : Str) (E : XK) (σ : L2.St) (t : TA) (Q : VK) : V → Hp → Prop := fun x H1 => ∃ a C dx fs sp, x = .ref a ∧ H1 a = some (.ins C dx fs) ∧ fs.lookup m = none ∧
  MO P w K mg base CX n C m sp ∧ t σ H1 fun vs H2 => sp (x :: vs) H2 Q E
def tMethD (P : Program) (w : World) (K : PySem.W.Frag) (mg : Str → Option Value) (base : Heap) (CX : CXT) (n : Nat) (m : Str) (E : L2.St → XK) (ta : TE) (t : TA) : TE := fun σ H Q => ta σ H (mtK P w K mg base CX n m (E σ) σ t Q)
theorem pe_methD {pl : Sem Bool} (he : PE X o ta) (hr : Room k X.A) (hx : ∀ σ, PassesAt CX X σ (E σ)) (ha : PA X (e :: es) t)
    (hst : starEach (e :: es) X.env = (false, eval e X.env) :: starEach es X.env := by rfl) (hpl : (backTo pos (starEach es X.env)).any (·.1) = false := by rfl)
    (ht : eval (.Call (.Attribute o m apos) (e :: es) [] pos) X.env = (do
      let ov ← eval o X.env
      standAt apos.atName
      let (f, first) ← holding [ov] (getMethod ov m pl)
      callWith pos f first (backTo pos (starEach (e :: es) X.env)) (backToKw pos (keywordEach [] X.env))) := by rfl) :
    PE X (.Call (.Attribute o m apos) (e :: es) [] pos) (tMethD X.prog X.w X.K X.mg X.base CX k m E ta t) := by
  refine ⟨fun pins s σ H Q I h => ?_⟩
  refine PySem.W.methodCall_KW (pl := pl) (thn (he.run pins s σ H _ I h) fun u s1 ⟨x, H1, I1, rx, a, C, dx, fs, sp, ex, ea, l, mo, q⟩ => ?_) ht
  subst ex
  obtain rfl : u = Value.ref a := rx
  obtain ⟨f, fd, ps, c, hm, F, hb⟩ := mo.ex
  refine getmeth_ok I1 ea c hm l ?_
  refine PySem.W.callWith_K (first := [.ref a]) (h₀ := X.base) I.ok.mod.kin hm.kp (thn (ha.run pos pins s1 σ H1 _ I1 q) fun us s2 ⟨vs, H2, I2, r, q2⟩ => ⟨I2.kIn, ?_⟩) hst hpl
  exact run_fnS (us := .ref a :: us) (vs := .ref a :: vs) F hr hb (hx σ) I2 (.cons rfl r) q2
/-- C(..), what is raised at the slots -/
def tMakeS (C : Addr) (sp : Sp) (dvs : List V) (E : L2.St → XK) (t : TA) : TE := fun σ H Q => t σ H fun vs H1 => ∀ x dx, H1 x = none → H1 dx = none → dx ≠ x →
  sp (.ref x :: (vs ++ dvs)) (upd (upd H1 dx (.own x)) x (.ins C dx [])) (fun v H2 => v = .non ∧ Q (.ref x) H2) (E σ)
end
section
variable {X : Cx} {CX : CXT} {k : Nat} {f C : Addr} {fd : FuncData} {ps : List Str} {sp : Sp} {dvs : List V} {ds : List Value} {E : L2.St → XK} {x : Str} {p pos : Pos} {e : Expr} {es : List Expr} {t : TA}
/-- a class without an own __init__ -/
structure Mk0 (K : PySem.W.Frag) (C : Addr) : Prop where
  makes : PySem.W.makesIn K C = true
  init : PySem.W.findIn K (.ref C) "__init__" = some (some (.builtin "object.__init__"))
  kp : PySem.W.keepIn K (.ref C) = true
def tMake0 (C : Addr) : TE := fun _ H Q => ∀ x dx, H x = none → H dx = none → dx ≠ x → Q (.ref x) (upd (upd H dx (.own x)) x (.ins C dx []))
theorem run_makeS {pins : List (Addr × Obj)} {σ : L2.St} {H : Hp} {s : Shared} {Q : VK} {us : List Value} {vs : List V} (M : Mk X.K C f) (F : FnOk X.prog X.w X.K X.mg X.base CX k f fd ps sp) (hr : Room (k + 1) X.A) (hb : Binds X.K fd ps ds) (hd : Vals dvs ds)
    (hx : ∀ σ, PassesAt CX X σ (E σ)) (I : Inv X pins σ H s) (r : Vals vs us)
    (h : ∀ x dx, H x = none → H dx = none → dx ≠ x → sp (.ref x :: (vs ++ dvs)) (upd (upd H dx (.own x)) x (.ins C dx [])) (fun v H2 => v = .non ∧ Q (.ref x) H2) (E σ)) :
    wpAny (model X.prog X.w) X.A (call (.ref C) us) (EP X pins σ Q) X.xe s := by
  have hq := h (s.heap.objs.size + 1) s.heap.objs.size (I.hok.fresh (Nat.le_succ _)) (I.hok.fresh (Nat.le_refl _)) (Nat.ne_of_lt (Nat.lt_succ_self _))
  have I2 := Inv.made (C := C) I
  have r2 : Vals (V.ref (s.heap.objs.size + 1) :: (vs ++ dvs)) (Value.ref (s.heap.objs.size + 1) :: (us ++ ds)) := .cons rfl (r.append hd)
  have hl : (Value.ref (s.heap.objs.size + 1) :: us ++ ds).length = ps.length := by
    have e := r2.length
    rw [F.len _ _ _ _ hq] at e
    exact e.symm
  refine wpAny_call (make_map (f := f) I.kIn M.makes M.init (beq_iff_eq.mp M.fn) (codeAny_mono (F.run _ X.stack _ _ ⟨Value.ref (s.heap.objs.size + 1) :: us, []⟩ (Value.ref (s.heap.objs.size + 1) :: (us ++ ds)) _ _ (E σ) (hr.make C us [])
    (I2.env0.make C us []) (hb _ (Value.ref (s.heap.objs.size + 1) :: us) I2.kIn hl) r2 hq) fun r s' hq' => ?_))
  cases r with
  | error e => exact hx σ pins _ _ e s' I2 hq'
  | ok fl =>
    cases fl with
    | ret u =>
      obtain ⟨v, H', I3, rv, ev, q3⟩ := I2.after hq'
      subst ev
      exact ⟨rv, ⟨V.ref (s.heap.objs.size + 1), H', I3, rfl, q3⟩⟩
    | next => exact False.elim hq'
    | brk => exact False.elim hq'
    | cont => exact False.elim hq'
theorem pe_mkS (M : Mk X.K C f) (F : FnOk X.prog X.w X.K X.mg X.base CX k f fd ps sp) (hr : Room (k + 1) X.A) (hg : Gl X x) (hm : X.mg x = some (.ref C)) (hb : Binds X.K fd ps ds) (hd : Vals dvs ds) (hx : ∀ σ, PassesAt CX X σ (E σ))
    (ha : PA X (e :: es) t) (hdb : (x == ("__debug__" : Str)) = false := by decide) (he : starEach (e :: es) X.env = (false, eval e X.env) :: starEach es X.env := by rfl) (hpl : (backTo pos (starEach es X.env)).any (·.1) = false := by rfl) :
    PE X (.Call (.Name x p) (e :: es) [] pos) (tMakeS C sp dvs E t) := by
  refine ⟨fun pins s σ H Q I h => ?_⟩
  refine wpAny_Call_Name_kw (ld_glob I hg hm ?_ hdb)
  refine PySem.W.callWith_K (h₀ := X.base) I.ok.mod.kin M.kp (thn (ha.run pos pins s σ H _ I h) fun us s1 ⟨vs, H1, I1, r, q⟩ => ⟨I1.kIn, ?_⟩) he hpl
  exact run_makeS M F hr hb hd hx I1 r q
end
/-! ### steps: statements -/
section
variable {σ : L2.St} {H H1 : Hp} {K : PySem.W.Frag} {D : Ends} {t u : TS} {te ta tb : TE} {c : TT} {i : Nat} {v x y : V} {Q : VK} {QB : Bool → Hp → Prop} {A B : Prop} {b : Bool}
theorem x_seq (h : t { D with nx := u D } σ H) : tSeq t u D σ H := h
theorem x_seqA {g : TG} (h : tAsg te g { D with nx := u D } σ H) : tSeq (tAsg te g) u D σ H := h
theorem x_seqD (h : tDrop te { D with nx := u D } σ H) : tSeq (tDrop te) u D σ H := h
theorem x_seqF {f : Str} (h : sFld K ta te f { D with nx := u D } σ H) : tSeq (sFld K ta te f) u D σ H := h
theorem x_seqFA {f : Str} {rd : V → V → Hp → VK → Prop} (h : sFldAug K ta te rd f { D with nx := u D } σ H) : tSeq (sFldAug K ta te rd f) u D σ H := h
theorem x_seqAug {ti : TIp} (h : tAug i te ti { D with nx := u D } σ H) : tSeq (tAug i te ti) u D σ H := h
theorem x_next (q : D.nx σ H) : tNext D σ H := q
theorem x_asg {g : TG} (h : te σ H fun x H1 => g x σ H1 D.nx) : tAsg te g D σ H := h
theorem x_gname {QS : L2.St → Hp → Prop} (q : QS (σ.set i (some v)) H) : gName i v σ H QS := q
theorem x_ret (h : te σ H D.rt) : tRet te D σ H := h
theorem x_retN (h : D.rt .non H) : tRetN D σ H := h
theorem x_drop (h : te σ H fun _ H1 => D.nx σ H1) : tDrop te D σ H := h
theorem x_if (h : c σ H fun b H1 => if b = true then t D σ H1 else u D σ H1) : tIfS c t u D σ H := h
theorem x_iteT (h : A) : if true = true then A else B := iteT h
theorem x_iteF (h : B) : if false = true then A else B := iteF h
theorem x_iteD {p : Prop} [Decidable p] (h1 : p → A) (h2 : ¬ p → B) : if decide p = true then A else B := by
  by_cases h : p
  · rw [decide_eq_true h]; exact iteT (h1 h)
  · rw [decide_eq_false h]; exact iteF (h2 h)
theorem x_iteN (h : if b = true then B else A) : if (!b) = true then A else B := by
  cases b with
  | true => exact h
  | false => exact h
theorem x_iteB (h1 : b = true → A) (h2 : b = false → B) : if b = true then A else B := by
  cases b with
  | true => exact iteT (h1 rfl)
  | false => exact iteF (h2 rfl)
/-- ways that join: J holds at the end of t on every way -/
theorem x_join (J : L2.St → Hp → Prop) (h1 : ∀ R : L2.St → Hp → Prop, (∀ σ' H', J σ' H' → R σ' H') → t { D with nx := R } σ H) (h2 : ∀ σ' H', J σ' H' → u D σ' H') : tSeq t u D σ H := h1 (u D) h2
/-! ### steps: expressions -/
theorem x_var (h : σ[i]? = some (some v)) (q : Q v H) : tVar i σ H Q := ⟨v, h, q⟩
theorem x_c (q : Q v H) : tC v σ H Q := q
theorem x_op {r : R2} (h : ta σ H fun x H1 => tb σ H1 fun y H2 => r x y H2 Q) : tOp r ta tb σ H Q := h
theorem x_un {r : V → Hp → VK → Prop} (h : ta σ H fun x H1 => r x H1 Q) : tUn r ta σ H Q := h
theorem x_cb {r : List V → Hp → VK → Prop} {t : TA} (h : t σ H fun vs H1 => r vs H1 Q) : tCB r t σ H Q := h
theorem x_nil {QA : List V → Hp → Prop} (q : QA [] H) : tNil σ H QA := q
theorem x_cons {QA : List V → Hp → Prop} {tr : TA} (h : ta σ H fun x H1 => tr σ H1 fun xs H2 => QA (x :: xs) H2) : tCons ta tr σ H QA := h
theorem x_callS {sp : Sp} {E : L2.St → XK} {t : TA} (h : t σ H fun vs H1 => sp vs H1 Q (E σ)) : tCallS sp E t σ H Q := h
theorem x_ifExp (h : c σ H fun c H1 => if c = true then ta σ H1 Q else tb σ H1 Q) : tIf c ta tb σ H Q := h
theorem x_test (h : te σ H fun x H' => ∃ k, x = .bl k ∧ QB k H') : tTest te σ H QB := h
theorem x_tB (h : te σ H fun x H' => ∃ k, x = .bl k ∧ QB k H') : tB te σ H QB := h
theorem x_and {t u : TT} (h : t σ H fun c H1 => if c = true then u σ H1 QB else QB false H1) : tAnd t u σ H QB := h
theorem x_or {t u : TT} (h : t σ H fun c H1 => if c = true then QB true H1 else u σ H1 QB) : tOr t u σ H QB := h
theorem x_not {t : TT} (h : t σ H fun c H1 => QB (!c) H1) : tNot t σ H QB := h
theorem x_andT (h : ta σ H fun x H1 => ∃ k, TruV K x H1 k ∧ if k = true then tb σ H1 Q else Q x H1) : tAndT K ta tb σ H Q := h
theorem x_orT (h : ta σ H fun x H1 => ∃ k, TruV K x H1 k ∧ if k = true then Q x H1 else tb σ H1 Q) : tOrT K ta tb σ H Q := h
theorem x_notT (h : ta σ H fun x H1 => ∃ k, TruV K x H1 k ∧ Q (.bl (!k)) H1) : tNotT K ta σ H Q := h
theorem x_truBl {P : Bool → Prop} (h : P b) : ∃ k, TruV K (.bl b) H k ∧ P k := ⟨b, rfl, h⟩
theorem x_isbl {P : Bool → Prop} (h : P b) : ∃ k, V.bl b = .bl k ∧ P k := ⟨b, rfl, h⟩
theorem x_chain {r r' : R2} {tc : TE} (h : ta σ H fun x H1 => tb σ H1 fun y H2 => r x y H2 fun z H3 => ∃ k, z = .bl k ∧ if k = true then tc σ H3 fun z' H4 => r' y z' H4 Q else Q (.bl false) H3) : tChain r r' ta tb tc σ H Q := h
/-! ### steps: operators on values -/
variable {m n : Int} {s1 s2 : Str}
theorem x_addI (q : Q (.int (m + n)) H) : uAdd K (.int m) (.int n) H Q := .inl ⟨m, n, rfl, rfl, q⟩
theorem x_addS (q : Q (.str (s1 ++ s2)) H) (h : s1.length + s2.length ≤ sizeLine) : uAdd K (.str s1) (.str s2) H Q := .inr (.inl ⟨s1, s2, rfl, rfl, h, q⟩)
theorem x_I0 {g : Int → Int → V} (q : Q (g m n) H) : rI0 g (.int m) (.int n) H Q := ⟨m, n, rfl, rfl, q⟩
theorem x_I {C : Int → Int → Prop} {g : Int → Int → V} (q : Q (g m n) H) (h : C m n) : rI C g (.int m) (.int n) H Q := ⟨m, n, rfl, rfl, h, q⟩
theorem x_pow {g : Int → Int → V} (q : Q (g m n) H) (h : CPow m n) : rI CPow g (.int m) (.int n) H Q := ⟨m, n, rfl, rfl, h, q⟩
theorem x_lt (q : Q (.bl (decide (m < n))) H) : uLt (.int m) (.int n) H Q := ⟨m, n, rfl, rfl, q⟩
theorem x_mulI (q : Q (.int (m * n)) H) (h : CMul m n) : uMul (.int m) (.int n) H Q := .inl ⟨m, n, rfl, rfl, h, q⟩
theorem x_mulU (q : Q (.int (m * n)) H) (h : m.natAbs < 2 ^ 250 ∧ n.natAbs < 2 ^ 250) : uMul (.int m) (.int n) H Q := .inr (.inr ⟨m, n, rfl, rfl, wide_mul h.1 h.2 (by decide) (by decide) (by decide), q⟩)
theorem same_upd {o : HO} {p : Addr} (h : H p = none) : Same H (upd H p o) := fun b u e => by rw [upd_ne (ne_of_none e h)]; exact e
theorem same_updS {H H' : Hp} {o : HO} {p : Addr} (s : Same H H') (h : H p = none) : Same H (upd H' p o) := fun b u e => by rw [upd_ne (ne_of_none e h)]; exact s _ _ e
theorem cutV_from {xs : List V} (k : Nat) : cutV xs (some (k : Int)) none = xs.drop k := by
  unfold cutV
  rw [HT.sIx_nat, HT.sIx_none]
  by_cases h : k ≤ xs.length
  · rw [Nat.min_eq_left h, List.take_of_length_le (by rw [List.length_drop]; exact Nat.le_refl _)]
  · rw [Nat.min_eq_right (by omega), List.drop_of_length_le (Nat.le_refl _), List.drop_of_length_le (by omega), List.take_nil]
/-- a new object: what is asked of it -/
abbrev New (H : Hp) (Q : VK) (o : HO) : Prop := ∀ p H1, H p = none → Same H H1 → H1 p = some o → Q (.ref p) H1
theorem New.mk {o : HO} (h : New H Q o) : ∀ p, H p = none → Q (.ref p) (upd H p o) := fun p hp => h p _ hp (same_upd hp) upd_same
def nwL (Q : VK) : List V → Hp → Prop := fun xs H1 => xs.length ≤ sizeLine ∧ ∀ p, H1 p = none → Q (.ref p) (upd H1 p (.lst xs))
def nwT (Q : VK) : List V → Hp → Prop := fun xs H1 => xs.length ≤ sizeLine ∧ ∀ p, H1 p = none → Q (.ref p) (upd H1 p (.tup xs))
theorem x_nwL {xs : List V} (h : New H Q (.lst xs)) (hl : xs.length ≤ sizeLine) : nwL Q xs H := ⟨hl, h.mk⟩
theorem x_nwT {xs : List V} (h : New H Q (.tup xs)) (hl : xs.length ≤ sizeLine) : nwT Q xs H := ⟨hl, h.mk⟩
theorem x_addL {l l' : Addr} {xs ys : List V} (h1 : H l = some (.lst xs)) (h2 : H l' = some (.lst ys)) (q : New H Q (.lst (xs ++ ys))) (hl : xs.length + ys.length ≤ sizeLine) : uAdd K (.ref l) (.ref l') H Q :=
  .inr (.inr (.inl ⟨l, l', xs, ys, rfl, rfl, h1, h2, hl, q.mk⟩))
theorem x_rep {l : Addr} {xs : List V} (h1 : H l = some (.lst xs)) (q : New H Q (.lst (List.replicate n.toNat xs).flatten)) (h2 : n < 2 ^ 63) (h0 : 0 ≤ n) (hl : xs.length * n.toNat ≤ sizeLine) : uMul (.ref l) (.int n) H Q :=
  .inr (.inl ⟨l, n, xs, rfl, rfl, h1, Int.le_trans (by decide) h0, h2, hl, q.mk⟩)
theorem flat_rep {v : V} : ∀ n : Nat, (List.replicate n [v]).flatten = List.replicate n v
  | 0 => rfl
  | n + 1 => by rw [List.replicate_succ, List.flatten_cons, flat_rep n]; rfl
/-- [v] * n -/
theorem x_rep1 {l : Addr} {v : V} (h1 : H l = some (.lst [v])) (q : New H Q (.lst (List.replicate n.toNat v))) (h : 0 ≤ n ∧ n ≤ 1000000) : uMul (.ref l) (.int n) H Q :=
  x_rep h1 (by rw [flat_rep]; exact q) (by omega) h.1 (by rw [List.length_singleton, Nat.one_mul]; exact Nat.le_trans (show n.toNat ≤ 1000000 by omega) (by decide))
theorem cdivW {i j : Int} (h : 0 < j) (h2 : j < 10 ^ 60) : CDivW i j := by
  refine wide_div (b := 200) h ?_ (by decide) (by decide)
  have : (2:Nat) ^ 200 = 1606938044258990275541962092341162602522202993782792835301376 := by decide
  omega
theorem x_shl (q : Q (.int (m * 2 ^ n.toNat)) H) (h : CShl m n) : uShl (.int m) (.int n) H Q := ⟨m, n, rfl, rfl, h, q⟩
theorem x_U {g : Int → V} (q : Q (g m) H) : rU g (.int m) H Q := ⟨m, rfl, q⟩
theorem x_eqI (q : Q (.bl (decide (m = n))) H) : uEq K (.int m) (.int n) H Q := .inl ⟨rfl, by rw [dec_int, ← Bool.beq_eq_decide_eq] at *; exact q⟩
theorem x_neI (q : Q (.bl (!decide (m = n))) H) : uNe K (.int m) (.int n) H Q := .inl ⟨rfl, by rw [dec_int, ← Bool.beq_eq_decide_eq] at *; exact q⟩
theorem x_eqB {b c : Bool} (q : Q (.bl (decide (b = c))) H) : uEq K (.bl b) (.bl c) H Q := .inl ⟨rfl, by rw [dec_bl, ← Bool.beq_eq_decide_eq] at *; exact q⟩
theorem x_neB {b c : Bool} (q : Q (.bl (!decide (b = c))) H) : uNe K (.bl b) (.bl c) H Q := .inl ⟨rfl, by rw [dec_bl, ← Bool.beq_eq_decide_eq] at *; exact q⟩
theorem x_eqS (q : Q (.bl (decide (s1 = s2))) H) : uEq K (.str s1) (.str s2) H Q := .inl ⟨rfl, by rw [dec_str] at *; rw [show decide (s1 = s2) = (s1 == s2) from by rw [Bool.beq_eq_decide_eq]] at q; exact q⟩
theorem x_tup {t : TA} (h : t σ H (nwT Q)) : tTup t σ H Q := h
theorem x_lst {t : TA} (h : t σ H (nwL Q)) : tLst t σ H Q := h
/-! ### steps: sequences -/
variable {p : Addr} {xs : List V} {ns : List Int}
theorem atI_getD {α : Type} {xs : List α} {i : Int} (d : α) (h0 : 0 ≤ i) (h1 : i < xs.length) : atI xs i = some (xs.getD i.toNat d) := by
  obtain ⟨j, rfl⟩ : ∃ j : Nat, i = (j : Int) := ⟨i.toNat, by omega⟩
  have hj : j < xs.length := by omega
  exact atI_nat (by simp [hj])
theorem x_ixI (h : SqL K H p (ns.map V.int)) (q : Q (.int (ns.getD n.toNat 0)) H) (h0 : 0 ≤ n) (h1 : n < ns.length) : rIx K (.ref p) (.int n) H Q :=
  .inl ⟨p, _, n, _, rfl, rfl, h, by
    rw [atI_getD (.int 0) h0 (by rw [List.length_map]; exact h1)]
    have hn : n.toNat < ns.length := by omega
    simp [hn], q⟩
theorem x_ixS (h : SqL K H p xs) (ha : atI xs n = some v) (q : Q v H) : rIx K (.ref p) (.int n) H Q := .inl ⟨p, _, n, _, rfl, rfl, h, ha, q⟩
theorem atI_0 {α : Type} {x : α} {xs : List α} : atI (x :: xs) 0 = some x := atI_nat (j := 0) (by simp)
theorem x_ixH (h : SqL K H p (v :: xs)) (q : Q v H) : rIx K (.ref p) (.int 0) H Q := .inl ⟨p, _, 0, _, rfl, rfl, h, atI_0, q⟩
theorem atI_any (n : Nat) (hn : 0 < n) (o : Int) (ho : o = 0 ∨ o = -1) : ∃ i, i < n ∧ ∀ {α : Type} (xs : List α), xs.length = n → atI xs o = xs[i]? := by
  rcases ho with rfl | rfl
  · exact ⟨0, hn, fun xs h => by
      cases xs with
      | nil => simp at h; omega
      | cons x xs => rw [atI_0]; rfl⟩
  · refine ⟨n - 1, by omega, fun xs h => ?_⟩
    unfold atI ixN
    rw [h, if_neg (by decide), if_pos (by omega)]
    show xs[((n : Int) + -1).toNat]? = _
    rw [show ((n : Int) + -1).toNat = n - 1 by omega]
theorem x_ixL (h : SqL K H p xs) (q : Q (xs.getD n.toNat .non) H) (h0 : 0 ≤ n) (h1 : n < xs.length) : rIx K (.ref p) (.int n) H Q :=
  .inl ⟨p, _, n, _, rfl, rfl, h, atI_getD _ h0 h1, q⟩
theorem x_ixT (h : SqT K H p xs) (ha : atI xs n = some v) (q : Q v H) : rIx K (.ref p) (.int n) H Q :=
  .inr (.inl ⟨p, _, n, _, rfl, rfl, h, ha, q⟩)
end
/-! ### data -/
section
variable {X : Cx} {σ : L2.St} {H H' : Hp} {K : PySem.W.Frag} {Q : VK} {x y : V}
theorem cl_all : ∀ ds : List PyData, PyData.canLayAll0 ds = true ↔ ∀ d ∈ ds, PyData.canLay0 d = true
  | [] => by simp [PyData.canLayAll0]
  | d :: ds => by rw [PyData.canLayAll0, Bool.and_eq_true, cl_all ds]; simp
theorem dp_all {k : Nat} : ∀ ds : List PyData, PyData.depthAll ds ≤ k ↔ ∀ d ∈ ds, PyData.depth d ≤ k
  | [] => by simp [PyData.depthAll]
  | d :: ds => by rw [PyData.depthAll, Nat.max_le, dp_all ds]; simp
/-- data of a depth that can be compared -/
def Sh (k : Nat) (d : PyData) : Prop := d.canLay0 = true ∧ d.depth ≤ k
theorem Sh.list {k : Nat} {ds : List PyData} (h : ∀ d ∈ ds, Sh k d) : Sh (k + 1) (.list ds) := ⟨by rw [PyData.canLay0]; exact (cl_all ds).mpr fun d m => (h d m).1, by rw [PyData.depth]; exact Nat.succ_le_succ ((dp_all ds).mpr fun d m => (h d m).2)⟩
theorem Sh.tup {k : Nat} {ds : List PyData} (h : ∀ d ∈ ds, Sh k d) : Sh (k + 1) (.tuple ds) := ⟨by rw [PyData.canLay0]; exact (cl_all ds).mpr fun d m => (h d m).1, by rw [PyData.depth]; exact Nat.succ_le_succ ((dp_all ds).mpr fun d m => (h d m).2)⟩
theorem Sh.int {k : Nat} {n : Int} : Sh k (.int n) := ⟨by simp [PyData.canLay0], by simp [PyData.depth]⟩
theorem Sh.non {k : Nat} : Sh k .none := ⟨by simp [PyData.canLay0], by simp [PyData.depth]⟩
theorem Sh.bl {k : Nat} {b : Bool} : Sh k (.bool b) := ⟨by simp [PyData.canLay0], by simp [PyData.depth]⟩
theorem Sh.str {k : Nat} {s : Str} (h : PyData.strOk s = true) : Sh k (.str s) := ⟨by rw [PyData.canLay0]; exact h, by simp [PyData.depth]⟩
theorem Sh.shaped {k : Nat} {d : PyData} (h : Sh k d) (hk : k ≤ 64) : SeqAt.shaped d = true := by
  unfold SeqAt.shaped
  rw [h.1, decide_eq_true (Nat.le_trans h.2 hk)]
  rfl
theorem Sh.refl {k : Nat} {d : PyData} (h : Sh k d) : PyData.eqv d d = true := SeqAt.eqv_refl d h.1
theorem x_eqD {d e : PyData} (h1 : Dp K H x d) (h2 : Dp K H y e) (s1 : Sh 9 d) (s2 : Sh 9 e) (q : Q (.bl (PyData.eqv d e)) H) : uEq K x y H Q := .inr ⟨d, e, h1, h2, s1.shaped (by decide), s2.shaped (by decide), q⟩
theorem x_neD {d e : PyData} (h1 : Dp K H x d) (h2 : Dp K H y e) (s1 : Sh 9 d) (s2 : Sh 9 e) (q : Q (.bl (!PyData.eqv d e)) H) : uNe K x y H Q := .inr ⟨d, e, h1, h2, s1.shaped (by decide), s2.shaped (by decide), q⟩
theorem x_neS2 {d : PyData} (h1 : Dp K H x d) (h2 : Dp K H y d) (s1 : Sh 9 d) (q : Q (.bl false) H) : uNe K x y H Q := x_neD h1 h2 s1 s1 (by rw [s1.refl]; exact q)
theorem dpAll_of : ∀ {vs : List V} {ds : List PyData}, vs.length = ds.length → (∀ (i : Nat) v d, vs[i]? = some v → ds[i]? = some d → Dp K H v d) → DpAll K H vs ds
  | [], [], _, _ => .nil
  | v :: vs, d :: ds, hl, h => .cons (h 0 v d rfl rfl) (dpAll_of (by simpa using hl) fun i a b h1 h2 => h (i + 1) a b h1 h2)
end
/-! ### loops -/
section
variable {X : Cx} {σ : L2.St} {H : Hp} {K : PySem.W.Frag} {D : Ends} {g : TG} {tb : TS} {tl te : TE} {tt : TT} {ta : TA} {a : Addr} {xs : List V} {Q : VK} {vs : List Nat}
theorem sl_u : SlR X (rSlL X.K) := sl_list
theorem x_slice {to th : TO} {r : V → Option Int → Option Int → Hp → VK → Prop} (h : te σ H fun x H1 => to σ H1 fun l H2 => th σ H2 fun u H3 => r x l u H3 Q) : tSl r te to th σ H Q := h
theorem x_noPart {QO : Option Int → Hp → Prop} (q : QO none H) : tNoPart σ H QO := q
def ptK (QO : Option Int → Hp → Prop) : V → Hp → Prop := fun x H1 => ∃ i, x = .int i ∧ QO (some i) H1
theorem x_part {QO : Option Int → Hp → Prop} (h : te σ H (ptK QO)) : tPart te σ H QO := h
theorem x_ptK {QO : Option Int → Hp → Prop} {i : Int} (q : QO (some i) H) : ptK QO (.int i) H := ⟨i, rfl, q⟩
theorem x_slL {lo hi : Option Int} (h : SqL K H a xs) (q : New H Q (.lst (cutV xs lo hi))) : rSlL K (.ref a) lo hi H Q := ⟨a, xs, rfl, h, q.mk⟩
def loopK (J : It) (g : TG) (tb : TS) (D : Ends) (σ : L2.St) (H1 : Hp) : Prop := ∃ W : Nat → Nat → L2.St → Hp → Prop, (∃ m, W 0 m σ H1) ∧ ∀ i m σ H, W i m σ H →
  (J.stop i H ∧ D.nx σ H) ∨ (J.go i H ∧ ∃ N : L2.St → Hp → Prop, (∀ σ' H', N σ' H' → ∃ m', m' < m ∧ W (i + 1) m' σ' H') ∧ ∀ x H', J.yld i H x H' → g x σ H' fun σ2 H2 => tb { D with nx := N, ct := N, bk := D.nx } σ2 H2)
def frL (K : PySem.W.Frag) (g : TG) (tb : TS) (D : Ends) (σ : L2.St) : V → Hp → Prop := fun x H1 => ∃ a, x = .ref a ∧ (∃ xs, SqL K H1 a xs) ∧ loopK (Itl K a) g tb D σ H1
theorem x_forL (h : tl σ H (frL K g tb D σ)) : tFor (iList K tl) g tb D σ H := h
theorem x_frL (hq : SqL K H a xs) (Pv : Nat → L2.St → Hp → Prop) (h0 : Pv 0 σ H) (hl : ∀ i σ H, i ≤ xs.length → Pv i σ H → SqL K H a xs)
    (hs : ∀ i x σ H, xs[i]? = some x → Pv i σ H → g x σ H fun σ2 H2 => tb { D with nx := Pv (i + 1), ct := Pv (i + 1), bk := D.nx } σ2 H2) (hd : ∀ σ H, Pv xs.length σ H → D.nx σ H) : frL K g tb D σ (.ref a) H :=
  ⟨a, rfl, ⟨_, hq⟩, for_list Pv h0 hl hs hd⟩
def frT (K : PySem.W.Frag) (g : TG) (tb : TS) (D : Ends) (σ : L2.St) : V → Hp → Prop := fun x H1 => ∃ a, x = .ref a ∧ (∃ xs, SqT K H1 a xs) ∧ loopK (Itt K a) g tb D σ H1
theorem x_forT (h : tl σ H (frT K g tb D σ)) : tFor (iTup K tl) g tb D σ H := h
/-! a loop over a list or a tuple -/
def iSeq (K : PySem.W.Frag) (tl : TE) : TI := fun σ H R => tl σ H fun x H1 => ∃ a, x = .ref a ∧ (((∃ xs, SqL K H1 a xs) ∧ R (Itl K a) H1) ∨ ((∃ xs, SqT K H1 a xs) ∧ R (Itt K a) H1))
def frS (K : PySem.W.Frag) (g : TG) (tb : TS) (D : Ends) (σ : L2.St) : V → Hp → Prop := fun x H1 => ∃ a, x = .ref a ∧ (((∃ xs, SqL K H1 a xs) ∧ loopK (Itl K a) g tb D σ H1) ∨ ((∃ xs, SqT K H1 a xs) ∧ loopK (Itt K a) g tb D σ H1))
theorem x_forS (h : tl σ H (frS K g tb D σ)) : tFor (iSeq K tl) g tb D σ H := h
def frR1 (g : TG) (tb : TS) (D : Ends) (σ : L2.St) : List V → Hp → Prop := fun vs H1 => ∃ j : Int, vs = [.int j] ∧ -(2 ^ 62) ≤ j ∧ j < 2 ^ 62 ∧ loopK (Itr 0 j.toNat) g tb D σ H1
theorem x_forR1 (h : ta σ H (frR1 g tb D σ)) : tFor (iRng1 ta) g tb D σ H := h
theorem x_frR1 {j : Int} (b : -(2 ^ 62) ≤ j ∧ j < 2 ^ 62) (Pv : Nat → L2.St → Hp → Prop) (h0 : Pv 0 σ H)
    (hs : ∀ i σ H, i < j.toNat → Pv i σ H → g (.int (0 + i)) σ H fun σ2 H2 => tb { D with nx := Pv (i + 1), ct := Pv (i + 1), bk := D.nx } σ2 H2) (hd : ∀ σ H, Pv j.toNat σ H → D.nx σ H) : frR1 g tb D σ [.int j] H :=
  ⟨j, rfl, b.1, b.2, for_range Pv h0 hs hd⟩
def frR2 (g : TG) (tb : TS) (D : Ends) (σ : L2.St) : List V → Hp → Prop := fun vs H1 => ∃ i j : Int, vs = [.int i, .int j] ∧ (-(2 ^ 62) ≤ i ∧ i < 2 ^ 62 ∧ -(2 ^ 62) ≤ j ∧ j < 2 ^ 62) ∧ loopK (Itr i (j - i).toNat) g tb D σ H1
theorem x_forR2 (h : ta σ H (frR2 g tb D σ)) : tFor (iRng2 ta) g tb D σ H := h
theorem x_gtup2 {i j : Nat} {QS : L2.St → Hp → Prop} {x y : V} (h : SqT K H a [x, y]) (q : QS ((σ.set i (some x)).set j (some y)) H) : gTup K 2 (gCons (gName i) (gCons (gName j) gNil)) (.ref a) σ H QS :=
  ⟨a, [x, y], rfl, h, rfl, x, [y], rfl, y, [], rfl, rfl, q⟩
theorem x_glst4 {i j k l : Nat} {QS : L2.St → Hp → Prop} {x y z u : V} (h : SqL K H a [x, y, z, u]) (q : QS ((((σ.set i (some x)).set j (some y)).set k (some z)).set l (some u)) H) : gLst K 4 (gCons (gName i) (gCons (gName j) (gCons (gName k) (gCons (gName l) gNil)))) (.ref a) σ H QS :=
  ⟨a, [x, y, z, u], rfl, h, rfl, x, [y, z, u], rfl, y, [z, u], rfl, z, [u], rfl, u, [], rfl, rfl, q⟩
def frEn (K : PySem.W.Frag) (g : TG) (tb : TS) (D : Ends) (σ : L2.St) : List V → Hp → Prop := fun vs H1 => ∃ a xs, vs = [.ref a] ∧ SqL K H1 a xs ∧ loopK (Ite K a) g tb D σ H1
theorem x_forEn (h : ta σ H (frEn K g tb D σ)) : tFor (iEnum K ta) g tb D σ H := h
def frZ (K : PySem.W.Frag) (g : TG) (tb : TS) (D : Ends) (σ : L2.St) : List V → Hp → Prop := fun vs H1 => ∃ a b xs ys, vs = [.ref a, .ref b] ∧ SqL K H1 a xs ∧ SqL K H1 b ys ∧ loopK (Itz K a b) g tb D σ H1
theorem x_forZ (h : ta σ H (frZ K g tb D σ)) : tFor (iZip K ta) g tb D σ H := h
theorem x_frZ {n1 n2 : Nat} {b : Addr} {ys : List V} (hq : SqL K H a xs) (hq2 : SqL K H b ys) (hxy : xs.length = ys.length) (Pv : Nat → L2.St → Hp → Prop) (h0 : Pv 0 σ H) (hl : ∀ i σ H, Pv i σ H → SqL K H a xs ∧ SqL K H b ys)
    (hs : ∀ i x y σ H H', xs[i]? = some x → ys[i]? = some y → Pv i σ H → Same H H' → tb { D with nx := Pv (i + 1), ct := Pv (i + 1), bk := D.nx } ((σ.set n1 (some x)).set n2 (some y)) H') (hd : ∀ σ H, Pv xs.length σ H → D.nx σ H) :
    frZ K (gTup K 2 (gCons (gName n1) (gCons (gName n2) gNil))) tb D σ [.ref a, .ref b] H := by
  refine ⟨a, b, xs, ys, rfl, hq, hq2, fun i m σ H => m = xs.length - i ∧ i ≤ xs.length ∧ Pv i σ H, ⟨xs.length, rfl, Nat.zero_le _, h0⟩, ?_⟩
  rintro i m σ H ⟨rfl, hi, p⟩
  obtain ⟨qx, qy⟩ := hl i σ H p
  by_cases hlt : i < xs.length
  · refine .inr ⟨⟨xs, ys, _, _, qx, qy, List.getElem?_eq_getElem hlt, List.getElem?_eq_getElem (by omega)⟩, Pv (i + 1), fun σ' H' p' => ⟨xs.length - (i + 1), by omega, rfl, hlt, p'⟩, fun v H' y => ?_⟩
    obtain ⟨T, x', y', rfl, hT, rfl, f1, f2⟩ := y
    exact x_gtup2 (SqT.of upd_same) (hs i x' y' σ H _ (f1 xs qx) (f2 ys qy) p (same_upd hT))
  · have e : i = xs.length := by omega
    subst e
    exact .inl ⟨⟨xs, ys, qx, qy, Or.inl (Nat.le_refl _)⟩, hd σ H p⟩
/-! comprehensions -/
/-- tuples stay -/
def TupS (H H' : Hp) : Prop := ∀ a xs, H a = some (.tup xs) → H' a = some (.tup xs)
theorem TupS.of {H H' : Hp} (h : Same H H') : TupS H H' := fun a xs e => h a _ e
theorem TupS.trans {H H1 H2 : Hp} (a : TupS H H1) (b : TupS H1 H2) : TupS H H2 := fun c o h => b c o (a c o h)
theorem TupS.upd {H : Hp} {p : Addr} {o o' : HO} (h : H p = some o) (ho : ∀ xs, o ≠ .tup xs) : TupS H (upd H p o') := fun a xs e => by
  rw [upd_ne (ne_of e h (fun z => ho xs z.symm))]; exact e
def lcK (J : It) (g : TG) (tt : TT) (te : TE) (vs : List Nat) (σ : L2.St) (Q : VK) (H1 : Hp) : Prop := ∀ D, H1 D = none → ∃ W : Nat → Nat → Hp → Prop, (∃ m, W 0 m (upd H1 D (.lst []))) ∧ ∀ i m H, W i m H →
  (J.stop i H ∧ Q (.ref D) H) ∨ (J.go i H ∧ ∃ Nx : Hp → Prop, (∀ H', Nx H' → ∃ m', m' < m ∧ W (i + 1) m' H') ∧ ∀ x H', J.yld i H x H' → g x (wipe σ vs) H' fun σ2 H2 => wipe σ2 vs = wipe σ vs ∧ tt σ2 H2 fun b H3 =>
    if b = true then te σ2 H3 fun y H4 => ∃ acc, H4 D = some (.lst acc) ∧ acc.length < sizeLine ∧ Nx (upd H4 D (.lst (acc ++ [y]))) else Nx H3)
def lcL (K : PySem.W.Frag) (g : TG) (tt : TT) (te : TE) (vs : List Nat) (σ : L2.St) (Q : VK) : V → Hp → Prop := fun x H1 => ∃ a, x = .ref a ∧ (∃ xs, SqL K H1 a xs) ∧ lcK (Itl K a) g tt te vs σ Q H1
theorem x_lcL (h : tl σ H (lcL K g tt te vs σ Q)) : tLc (iList K tl) g tt te vs σ H Q := h
/-- what a turn of a comprehension asks -/
def LcTurn (g : TG) (tt : TT) (te : TE) (vs : List Nat) (σ : L2.St) (A : Nat → List V → Hp → Prop) (i : Nat) (x : V) (acc : List V) (H' : Hp) : Prop :=
  ∀ (NY : VK) (NN : Hp → Prop), (∀ y H4, Same H' H4 → A (i + 1) (acc ++ [y]) H4 → NY y H4) → (∀ H3, Same H' H3 → A (i + 1) acc H3 → NN H3) →
    g x (wipe σ vs) H' fun σ2 H2 => wipe σ2 vs = wipe σ vs ∧ tt σ2 H2 fun b H3 => if b = true then te σ2 H3 NY else NN H3
theorem lc_gen {n : Nat} {J : It} (Y : Nat → V → Prop) (A : Nat → List V → Hp → Prop) (hA : ∀ i acc H H', TupS H H' → A i acc H → A i acc H') (hn : n < sizeLine) (h0 : A 0 [] H)
    (hJ : ∀ (Pv : Nat → Hp → Prop) (Dr : Addr), (∀ i H', Pv i H' → Same H H') → Pv 0 (upd H Dr (.lst [])) →
      (∀ i x H', Y i x → Pv i H' → g x (wipe σ vs) H' fun σ2 H2 => wipe σ2 vs = wipe σ vs ∧ tt σ2 H2 fun b H3 =>
        if b = true then te σ2 H3 fun y H4 => ∃ acc, H4 Dr = some (.lst acc) ∧ acc.length < sizeLine ∧ Pv (i + 1) (upd H4 Dr (.lst (acc ++ [y]))) else Pv (i + 1) H3) →
      (∀ H', Pv n H' → Q (.ref Dr) H') → ∃ W : Nat → Nat → Hp → Prop, (∃ m, W 0 m (upd H Dr (.lst []))) ∧ ∀ i m H, W i m H →
        (J.stop i H ∧ Q (.ref Dr) H) ∨ (J.go i H ∧ ∃ Nx : Hp → Prop, (∀ H', Nx H' → ∃ m', m' < m ∧ W (i + 1) m' H') ∧ ∀ x H', J.yld i H x H' → g x (wipe σ vs) H' fun σ2 H2 => wipe σ2 vs = wipe σ vs ∧ tt σ2 H2 fun b H3 =>
          if b = true then te σ2 H3 fun y H4 => ∃ acc, H4 Dr = some (.lst acc) ∧ acc.length < sizeLine ∧ Nx (upd H4 Dr (.lst (acc ++ [y]))) else Nx H3))
    (hs : ∀ i x acc H', Y i x → Same H H' → A i acc H' → LcTurn g tt te vs σ A i x acc H')
    (hY : ∀ i x, Y i x → i < n) (hd : ∀ p acc H', H p = none → Same H H' → H' p = some (.lst acc) → A n acc H' → Q (.ref p) H') : lcK J g tt te vs σ Q H := by
  intro Dr hD
  refine hJ (fun i H' => ∃ acc, H' Dr = some (.lst acc) ∧ acc.length ≤ i ∧ Same H H' ∧ A i acc H') Dr (fun i H' ⟨_, _, _, s, _⟩ => s) ⟨[], upd_same, Nat.le_refl _, same_upd hD, hA _ _ _ _ (TupS.of (same_upd hD)) h0⟩ ?_ ?_
  · rintro i x H' hy ⟨acc, h1, h2, h3, h4⟩
    have hi := hY i x hy
    refine hs i x acc H' hy h3 h4 _ _ (fun y H4 s4 a4 => ?_) (fun H3 s3 a3 => ⟨acc, s3 _ _ h1, Nat.le_succ_of_le h2, h3.trans s3, a3⟩)
    have e4 := s4 _ _ h1
    refine ⟨acc, e4, by omega, acc ++ [y], upd_same, by rw [List.length_append]; exact Nat.add_le_add h2 (Nat.le_refl _), fun b o e => ?_, hA _ _ _ _ (TupS.upd e4 (fun _ z => by cases z)) a4⟩
    rw [upd_ne (ne_of_none e hD)]
    exact s4 _ _ (h3 _ _ e)
  · rintro H' ⟨acc, h1, h2, h3, h4⟩
    exact hd Dr acc H' hD h3 h1 h4
theorem x_lcLK (hq : SqL K H a xs) (A : Nat → List V → Hp → Prop) (hA : ∀ i acc H H', TupS H H' → A i acc H → A i acc H') (hn : xs.length < sizeLine) (h0 : A 0 [] H)
    (hs : ∀ i x acc H', xs[i]? = some x → Same H H' → A i acc H' → LcTurn g tt te vs σ A i x acc H')
    (hd : ∀ p acc H', H p = none → Same H H' → H' p = some (.lst acc) → A xs.length acc H' → Q (.ref p) H') : lcL K g tt te vs σ Q (.ref a) H :=
  ⟨a, rfl, ⟨_, hq⟩, lc_gen (fun i x => xs[i]? = some x) A hA hn h0 (fun Pv Dr hP p0 ht hd => lc_list (K := K) (a := a) (xs := xs) Pv p0 (fun i H' _ p => (hP i H' p).seq hq) ht hd) hs (fun i x h => (List.getElem?_eq_some_iff.mp h).1) hd⟩
def lcR1 (g : TG) (tt : TT) (te : TE) (vs : List Nat) (σ : L2.St) (Q : VK) : List V → Hp → Prop := fun ws H1 => ∃ j : Int, ws = [.int j] ∧ -(2 ^ 62) ≤ j ∧ j < 2 ^ 62 ∧ lcK (Itr 0 j.toNat) g tt te vs σ Q H1
theorem x_lcR1 (h : ta σ H (lcR1 g tt te vs σ Q)) : tLc (iRng1 ta) g tt te vs σ H Q := h
theorem x_lcR1K {j : Int} (A : Nat → List V → Hp → Prop) (hA : ∀ i acc H H', TupS H H' → A i acc H → A i acc H') (hn : 0 ≤ j ∧ j < 1000000) (h0 : A 0 [] H)
    (hs : ∀ i acc H', i < j.toNat → Same H H' → A i acc H' → LcTurn g tt te vs σ A i (.int i) acc H')
    (hd : ∀ p acc H', H p = none → Same H H' → H' p = some (.lst acc) → A j.toNat acc H' → Q (.ref p) H') : lcR1 g tt te vs σ Q [.int j] H :=
  ⟨j, rfl, by omega, by omega, lc_gen (fun i x => i < j.toNat ∧ x = .int i) A hA (Nat.lt_of_lt_of_le (by omega : j.toNat < 1000000) (by decide)) h0
    (fun Pv Dr hP p0 ht hd => lc_range Pv p0 (fun i H' hi p => ht i _ H' ⟨hi, by rw [Int.zero_add]⟩ p) hd) (fun i x acc H' h s a => by rw [h.2]; exact hs i acc H' h.1 s a) (fun i x h => h.1) hd⟩
def lcR2 (g : TG) (tt : TT) (te : TE) (vs : List Nat) (σ : L2.St) (Q : VK) : List V → Hp → Prop := fun ws H1 => ∃ i j : Int, ws = [.int i, .int j] ∧ (-(2 ^ 62) ≤ i ∧ i < 2 ^ 62 ∧ -(2 ^ 62) ≤ j ∧ j < 2 ^ 62) ∧ lcK (Itr i (j - i).toNat) g tt te vs σ Q H1
theorem x_lcR2 (h : ta σ H (lcR2 g tt te vs σ Q)) : tLc (iRng2 ta) g tt te vs σ H Q := h
theorem x_yes {QB : Bool → Hp → Prop} (q : QB true H) : tYes σ H QB := q
/-! methods of built-in types -/
def bmK (K : PySem.W.Frag) (T : String) (r : V → List V → Hp → VK → Prop) (t : TA) (σ : L2.St) (Q : VK) : V → Hp → Prop := fun x H1 => tyV K T x H1 ∧ t σ H1 fun xs H2 => r x xs H2 Q
theorem x_bm {T : String} {r : V → List V → Hp → VK → Prop} {t : TA} (h : te σ H (bmK K T r t σ Q)) : tBM K T r te t σ H Q := h
theorem x_bmL {r : V → List V → Hp → VK → Prop} {t : TA} (hq : SqL K H a xs) (h : t σ H fun ws H2 => r (.ref a) ws H2 Q) : bmK K "list" r t σ Q (.ref a) H := ⟨.inl ⟨rfl, _, hq⟩, h⟩
def bm0K (K : PySem.W.Frag) (T : String) (r : V → List V → Hp → VK → Prop) (Q : VK) : V → Hp → Prop := fun x H1 => tyV K T x H1 ∧ r x [] H1 Q
theorem x_bm0 {T : String} {r : V → List V → Hp → VK → Prop} (h : te σ H (bm0K K T r Q)) : tBM0 K T r te σ H Q := h
theorem x_bm0L {r : V → List V → Hp → VK → Prop} (hq : SqL K H a xs) (h : r (.ref a) [] H Q) : bm0K K "list" r Q (.ref a) H := ⟨.inl ⟨rfl, _, hq⟩, h⟩
theorem x_append {y : V} (h : H a = some (.lst xs)) (q : Q .non (upd H a (.lst (xs ++ [y])))) (hl : xs.length < sizeLine) : rAppend (.ref a) [y] H Q := ⟨a, xs, y, rfl, rfl, h, hl, q⟩
theorem x_clear (h : H a = some (.lst xs)) (q : Q .non (upd H a (.lst []))) : rClear (.ref a) [] H Q := ⟨a, xs, rfl, rfl, h, q⟩
/-! objects -/
theorem x_mk0 {C : Addr} (h : ∀ x dx H1, H x = none → H dx = none → dx ≠ x → Same H H1 → H1 x = some (.ins C dx []) → H1 dx = some (.own x) → Q (.ref x) H1) : tMake0 C σ H Q := fun x dx n nd ne =>
  h x dx _ n nd ne ((same_upd nd).trans (same_upd (by rw [upd_ne (Ne.symm ne)]; exact n))) upd_same (by rw [upd_ne ne, upd_same])
def mkK (C : Addr) (sp : Sp) (dvs : List V) (Q : VK) (E : XK) : List V → Hp → Prop := fun vs H1 => ∀ x dx, H1 x = none → H1 dx = none → dx ≠ x →
  sp (.ref x :: (vs ++ dvs)) (upd (upd H1 dx (.own x)) x (.ins C dx [])) (fun v H2 => v = .non ∧ Q (.ref x) H2) E
theorem x_mkS {C : Addr} {sp : Sp} {dvs : List V} {E : L2.St → XK} {t : TA} (h : t σ H (mkK C sp dvs Q (E σ))) : tMakeS C sp dvs E t σ H Q := h
theorem x_mkK {C : Addr} {sp : Sp} {dvs ws : List V} {E : XK} (h : ∀ x dx H1, H x = none → H dx = none → dx ≠ x → Same H H1 → H1 x = some (.ins C dx []) → H1 dx = some (.own x) → sp (.ref x :: (ws ++ dvs)) H1 (fun v H2 => v = .non ∧ Q (.ref x) H2) E) :
    mkK C sp dvs Q E ws H := fun x dx n nd ne => h x dx _ n nd ne ((same_upd nd).trans (same_upd (by rw [upd_ne (Ne.symm ne)]; exact n))) upd_same (by rw [upd_ne ne, upd_same])
theorem x_methD {P : Program} {w : World} {mg : Str → Option Value} {base : Heap} {CX : CXT} {n : Nat} {m : Str} {E : L2.St → XK} {t : TA} (h : te σ H (mtK P w K mg base CX n m (E σ) σ t Q)) : tMethD P w K mg base CX n m E te t σ H Q := h
theorem x_mtK {P : Program} {w : World} {mg : Str → Option Value} {base : Heap} {CX : CXT} {n : Nat} {m : Str} {E : XK} {t : TA} {C dx : Addr} {fs : List (Str × V)} {sp : Sp} (ho : H a = some (.ins C dx fs)) (hm : MO P w K mg base CX n C m sp) (hl : fs.lookup m = none)
    (h : t σ H fun vs H2 => sp (.ref a :: vs) H2 Q E) : mtK P w K mg base CX n m E σ t Q (.ref a) H := ⟨a, C, dx, fs, sp, rfl, ho, hl, hm, h⟩
def fldK (K : PySem.W.Frag) (f : Str) (Q : VK) : V → Hp → Prop := fun x H1 => ∃ a C dx fs v, x = .ref a ∧ H1 a = some (.ins C dx fs) ∧ Cls K C ∧ NoAttr K C f ∧ fs.lookup f = some v ∧ Q v H1
theorem x_fld {f : Str} (h : te σ H (fldK K f Q)) : tFld K te f σ H Q := h
theorem x_fldK {f : Str} {C dx : Addr} {fs : List (Str × V)} {v : V} (ho : H a = some (.ins C dx fs)) (hl : fs.lookup f = some v) (q : Q v H) (hc : Cls K C) (hn : NoAttr K C f) : fldK K f Q (.ref a) H := ⟨a, C, dx, fs, v, rfl, ho, hc, hn, hl, q⟩
def sfK (K : PySem.W.Frag) (f : Str) (y : V) (D : Ends) (σ : L2.St) : V → Hp → Prop := fun x H2 => ∃ a C dx fs, x = .ref a ∧ H2 a = some (.ins C dx fs) ∧ Cls K C ∧ NoAttr K C f ∧ fs.length < 1000 ∧ D.nx σ (upd H2 a (.ins C dx (putF f y fs)))
theorem x_sfld {f : Str} (h : te σ H fun y H1 => tl σ H1 (sfK K f y D σ)) : sFld K tl te f D σ H := h
end
theorem _root_.L2.FunD.okX {P : Program} {w : World} {K : PySem.W.Frag} {mg : Str → Option Value} {base : Heap} {x qual : Str} {st : Stmt} {f : Addr} {fd : FuncData} {dvs : List V} {kws : List (Str × V)} {N ps : List Str} {k : Nat} {sp : Sp}
    (F : FunD K x qual (defArgs st) (defBody st) (defScope st) dvs kws f fd) (S : FnScope N ps (defScope st)) (len : ∀ vs H Q E, sp vs H Q E → vs.length = ps.length)
    (hbody : ∀ (cdv : Value) (A : Around) (outer : List Env) (s : Shared) (H : Hp) (vs : List V) (Q : VK) (E : XK), Room k (A.deeper (envOfC qual (defScope st) s.heap.objs.size f cdv)) → sp vs H Q E →
      ∃ t, PSs (cxOf (L2.CX P w) P w K mg base N qual (defScope st) f cdv A outer s H E) (defBody st) t ∧ t { nx := fun _ H' => Q .non H', rt := Q } (start N vs) H) : FnOk P w K mg base (L2.CX P w) (k + 1) f fd ps sp := F.ok S len hbody
/-! ### fields added to, while, is, in -/
section
variable {σ : L2.St} {H : Hp} {K : PySem.W.Frag} {D : Ends} {ta tv te : TE} {tb : TS} {tc : TT} {a : Addr} {Q : VK} {x y : V} {f : Str} {rd : V → V → Hp → VK → Prop}
/-- all but what stands at S stays -/
def Off (S : List Addr) (H H' : Hp) : Prop := ∀ b o, b ∉ S → H b = some o → H' b = some o
theorem Off.refl {S : List Addr} : Off S H H := fun _ _ _ h => h
theorem Off.of {S : List Addr} {H' : Hp} (s : Same H H') : Off S H H' := fun b o _ h => s b o h
theorem Off.trans {S : List Addr} {H1 H2 : Hp} (h1 : Off S H H1) (h2 : Off S H1 H2) : Off S H H2 := fun b o n h => h2 b o n (h1 b o n h)
theorem Off.sub {S S' : List Addr} {H' : Hp} (h : Off S H H') (hs : ∀ b, b ∈ S → b ∈ S') : Off S' H H' := fun b o n e => h b o (fun m => n (hs b m)) e
theorem Off.same {S : List Addr} {H1 H2 : Hp} (s : Same H H1) (h : Off S H1 H2) (n : ∀ b, b ∈ S → H b = none) : Same H H2 := fun b o e => h b o (fun m => by rw [n b m] at e; cases e) (s b o e)
theorem Off.same1 {H1 H2 : Hp} (s : Same H H1) (h : Off [a] H1 H2) (n : H a = none) : Same H H2 := h.same s fun b hb => by rw [List.mem_singleton] at hb; rw [hb]; exact n
theorem Off.at {S : List Addr} {H1 : Hp} {b : Addr} {o : HO} (h : Off S H H1) (e : H b = some o) (n : b ∉ S) : H1 b = some o := h b o n e
theorem Off.upd {S : List Addr} {o : HO} (h : a ∈ S) : Off S H (upd H a o) := fun b u n e => by
  rw [upd_ne (fun z => n (by rw [z]; exact h))]; exact e
theorem Off.lst {r : Addr} {H H' : Hp} {C dx : Addr} {fs : List (Str × V)} {a : Addr} {xs : List V} (s : Off [r] H H') (hr : H r = some (.ins C dx fs)) (h : H a = some (.lst xs)) : H' a = some (.lst xs) := s a _ (fun m => by
  rw [List.mem_singleton] at m; subst m; rw [hr] at h; cases h) h
theorem Off.tup {r : Addr} {H H' : Hp} {C dx : Addr} {fs : List (Str × V)} {a : Addr} {xs : List V} (s : Off [r] H H') (hr : H r = some (.ins C dx fs)) (h : H a = some (.tup xs)) : H' a = some (.tup xs) := s a _ (fun m => by
  rw [List.mem_singleton] at m; subst m; rw [hr] at h; cases h) h
theorem Off.ins {r : Addr} {H H' : Hp} {a : Addr} {o : HO} (s : Off [r] H H') (hne : a ≠ r) (h : H a = some o) : H' a = some o := s a _ (fun m => hne (List.mem_singleton.mp m)) h
theorem Off.tups {r : Addr} {H H' : Hp} {C dx : Addr} {fs : List (Str × V)} (s : Off [r] H H') (hr : H r = some (.ins C dx fs)) : TupS H H' := fun a xs h => s.tup hr h
def f3K (a C : Addr) (f : Str) (D : Ends) (σ : L2.St) : VK := fun z H3 => ∃ dx' fs', H3 a = some (.ins C dx' fs') ∧ fs'.length < 1000 ∧ D.nx σ (upd H3 a (.ins C dx' (putF f z fs')))
def faK (K : PySem.W.Frag) (tv : TE) (rd : V → V → Hp → VK → Prop) (f : Str) (D : Ends) (σ : L2.St) : V → Hp → Prop := fun x H1 => ∃ a C dx fs v, x = .ref a ∧ H1 a = some (.ins C dx fs) ∧ Cls K C ∧ NoAttr K C f ∧ fs.lookup f = some v ∧
  tv σ H1 fun y H2 => rd v y H2 (f3K a C f D σ)
theorem x_fldAug (h : ta σ H (faK K tv rd f D σ)) : sFldAug K ta tv rd f D σ H := h
theorem putF_new {f : Str} {y : V} : ∀ {fs : List (Str × V)}, fs.lookup f = none → putF f y fs = fs ++ [(f, y)]
  | [], _ => rfl
  | (g, x) :: r, h => by
    rw [List.lookup_cons] at h
    by_cases e : f = g
    · subst e; simp at h
    · rw [show (f == g) = false from beq_eq_false_iff_ne.mpr e] at h
      show (if g = f then _ else _) = _
      rw [if_neg (Ne.symm e), putF_new h]
      rfl
/-- self.f = y, f new -/
theorem x_sfN {C dx : Addr} {fs : List (Str × V)} (ho : H a = some (.ins C dx fs)) (hf : fs.lookup f = none) (q : ∀ H1, Off [a] H H1 → H1 a = some (.ins C dx (fs ++ [(f, y)])) → D.nx σ H1) (hc : Cls K C) (hn : NoAttr K C f) (hl : fs.length < 1000) : sfK K f y D σ (.ref a) H :=
  ⟨a, C, dx, fs, rfl, ho, hc, hn, hl, by rw [putF_new hf]; exact q _ (Off.upd (List.mem_singleton.mpr rfl)) upd_same⟩
theorem x_gsub {to ti : TE} {t : TSet} {v : V} {QS : L2.St → Hp → Prop} (h : to σ H fun o H1 => ti σ H1 fun i H2 => t o i v H2 fun H3 => QS σ H3) : gSub to ti t v σ H QS := h
theorem x_setL {xs : List V} {k : Int} {v : V} {QS : Hp → Prop} (hp : H a = some (.lst xs)) (q : ∀ H1, Off [a] H H1 → H1 a = some (.lst (xs.set k.toNat v)) → QS H1) (h0 : 0 ≤ k) (h1 : k < xs.length) : rSetL (.ref a) (.int k) v H QS :=
  ⟨a, xs, k, k.toNat, rfl, rfl, hp, by unfold ixN; rw [if_pos h0, if_pos h1], q _ (Off.upd (List.mem_singleton.mpr rfl)) upd_same⟩
/-- xs[i] of an augmented store -/
def rGetL (K : PySem.W.Frag) : V → V → Hp → VK → Prop := fun o i H Q => ∃ p xs k v, o = .ref p ∧ i = .int k ∧ SqL K H p xs ∧ 0 ≤ k ∧ xs[k.toNat]? = some v ∧ Q v H
theorem x_augS {to ti te : TE} {tget : V → V → Hp → VK → Prop} {tip : TIp} {tset : TSet} (h : to σ H fun o H1 => ti σ H1 fun i H2 => tget o i H2 fun x H3 => te σ H3 fun y H4 => tip x y H4 fun z H5 => tset o i z H5 fun H6 => D.nx σ H6) : tAugS to ti te tget tip tset D σ H := h
theorem x_seqAS {to ti te : TE} {tget : V → V → Hp → VK → Prop} {tip : TIp} {tset : TSet} {u : TS} (h : tAugS to ti te tget tip tset { D with nx := u D } σ H) : tSeq (tAugS to ti te tget tip tset) u D σ H := h
theorem x_getL {xs : List V} {k : Int} (h : SqL K H a xs) (q : Q (xs.getD k.toNat .non) H) (h0 : 0 ≤ k) (h1 : k < xs.length) : rGetL K (.ref a) (.int k) H Q := ⟨a, xs, k, _, rfl, rfl, h, h0, by
  have hn : k.toNat < xs.length := by omega
  simp [hn], q⟩
theorem x_getI {ns : List Int} {k : Int} (h : SqL K H a (ns.map V.int)) (q : Q (.int (ns.getD k.toNat 0)) H) (h0 : 0 ≤ k) (h1 : k < ns.length) : rGetL K (.ref a) (.int k) H Q := ⟨a, _, k, _, rfl, rfl, h, h0, by
  have hn : k.toNat < ns.length := by omega
  simp [hn], q⟩
theorem x_rSub {m n : Int} (q : Q (.int (m - n)) H) : rSub (.int m) (.int n) H Q := ⟨m, n, rfl, rfl, q⟩
/-- xs[i] by values that are named otherwise -/
theorem x_ixF {α : Type} {l : List α} {g : α → V} {k : Int} (d : α) (h : SqL K H a (l.map g)) (q : Q (g (l.getD k.toNat d)) H) (h0 : 0 ≤ k) (h1 : k < l.length) : rIx K (.ref a) (.int k) H Q := by
  have hn : k.toNat < l.length := by omega
  refine x_ixL h ?_ h0 (by rw [List.length_map]; exact h1)
  rw [show (l.map g).getD k.toNat .non = g (l.getD k.toNat d) by simp [hn]]
  exact q
theorem nin_of {b : Addr} (h : b ≠ a) : b ∉ [a] := fun z => h (List.mem_singleton.mp z)
theorem x_ixB {bs : List Bool} {k : Int} (h : SqL K H a (bs.map V.bl)) (q : Q (.bl (bs.getD k.toNat false)) H) (h0 : 0 ≤ k) (h1 : k < bs.length) : rIx K (.ref a) (.int k) H Q := x_ixF false h q h0 h1
theorem x_rAdd {m n : Int} (q : Q (.int (m + n)) H) : rAdd (.int m) (.int n) H Q := ⟨m, n, rfl, rfl, q⟩
theorem x_aug {i : Nat} {ti : TIp} (h : σ[i]? = some (some x)) (q : te σ H fun y H1 => ti x y H1 fun z H2 => D.nx (σ.set i (some z)) H2) : tAug i te ti D σ H := ⟨x, h, q⟩
theorem x_ipI {g : Int → Int → Int} {m n : Int} (q : Q (.int (g m n)) H) : ipI g (.int m) (.int n) H Q := ⟨m, n, rfl, rfl, q⟩
theorem x_isN (q : Q (.bl (decide (x = .non))) H) : uIs x .non H Q := .inl ⟨rfl, q⟩
theorem x_isNotN (q : Q (.bl (!decide (x = .non))) H) : uIsNot x .non H Q := .inl ⟨rfl, q⟩
theorem x_isB {b c : Bool} (q : Q (.bl (decide (b = c))) H) : uIs (.bl b) (.bl c) H Q := .inr ⟨b, c, rfl, rfl, q⟩
theorem x_isNotB {b c : Bool} (q : Q (.bl (!decide (b = c))) H) : uIsNot (.bl b) (.bl c) H Q := .inr ⟨b, c, rfl, rfl, q⟩
theorem inV_int (n : Int) (ns : List Int) : inV (.int n) (ns.map V.int) = decide (n ∈ ns) := by
  unfold inV
  induction ns with
  | nil => rfl
  | cons m ns ih =>
    rw [List.map_cons, List.any_cons, ih]
    have e : eqV (.int m) (.int n) = decide (n = m) := by
      show (m == n) = _
      rw [Bool.eq_iff_iff, beq_iff_eq, decide_eq_true_iff]
      exact ⟨Eq.symm, Eq.symm⟩
    rw [e, ← Bool.decide_or, decide_eq_decide, List.mem_cons]
theorem flat_ints (ns : List Int) : (ns.map V.int).all flatV = true := by
  rw [List.all_eq_true]
  intro x h
  obtain ⟨n, _, rfl⟩ := List.mem_map.mp h
  rfl
theorem x_inI {n : Int} {ns : List Int} (h : SqL K H a (ns.map V.int)) (q : Q (.bl (decide (n ∈ ns))) H) : uIn K (.int n) (.ref a) H Q := ⟨a, _, rfl, .inl h, rfl, flat_ints ns, by rw [inV_int] <;> exact q⟩
theorem x_notInI {n : Int} {ns : List Int} (h : SqL K H a (ns.map V.int)) (q : Q (.bl (!decide (n ∈ ns))) H) : uNotIn K (.int n) (.ref a) H Q := ⟨a, _, rfl, .inl h, rfl, flat_ints ns, by rw [inV_int] <;> exact q⟩
end
/-! ### dicts of text keys -/
section
variable {σ : L2.St} {H : Hp} {K : PySem.W.Frag} {D : Ends} {td ty tv : TE} {a : Addr} {Q : VK} {x v : V} {z : Str} {kvs kvs' : List (L2.Key × V)}
def dgK (x : V) (Q : VK) : V → Hp → Prop := fun y H2 => ∃ a v, x = .ref a ∧ DGet H2 a y (some v) ∧ Q v H2
theorem x_dget (h : td σ H fun x H1 => ty σ H1 (dgK x Q)) : tDGet td ty σ H Q := h
theorem x_dgS (h : H a = some (.dK kvs)) (hv : valV kvs (.inr z) = some v) (q : Q v H) : dgK (.ref a) Q (.str z) H := ⟨a, v, rfl, by rw [← hv]; exact DGet.k (k := .inr z) h, q⟩
def dpK (x v : V) (D : Ends) (σ : L2.St) : V → Hp → Prop := fun y H3 => ∃ a H4, x = .ref a ∧ DPut H3 a y v H4 ∧ D.nx σ H4
theorem x_dput (h : tv σ H fun v H1 => td σ H1 fun x H2 => ty σ H2 (dpK x v D σ)) : sDPut td ty tv D σ H := h
theorem x_seqDP {u : TS} (h : sDPut td ty tv { D with nx := u D } σ H) : tSeq (sDPut td ty tv) u D σ H := h
/-- {k: v, ..} -/
def dspK (p : Addr) (Q : VK) : List (V × V) → Hp → Prop := fun ps H2 => H2 p = some (.dK []) ∧ ∃ kvs : List (L2.Key × V), ps = kvs.map (fun kv => (kV kv.1, kv.2)) ∧ kvs.length ≤ 15 ∧ Q (.ref p) (upd H2 p (.dK (mergeK [] kvs)))
theorem x_disp {trs : List (TE × TE)} (h : ∀ p H1, H p = none → Same H H1 → H1 p = some (.dK []) → tPairs trs σ H1 (dspK p Q)) : tDisp trs σ H Q := fun p hp => h p _ hp (same_upd hp) upd_same
theorem x_prN {QP : List (V × V) → Hp → Prop} (q : QP [] H) : tPairs [] σ H QP := q
theorem x_prC {tk tv : TE} {r : List (TE × TE)} {QP : List (V × V) → Hp → Prop} (q : tk σ H fun x H1 => tv σ H1 fun y H2 => tPairs r σ H2 fun ps H3 => QP ((x, y) :: ps) H3) : tPairs ((tk, tv) :: r) σ H QP := q
theorem x_dnew (h : ∀ p H1, H p = none → Same H H1 → H1 p = some (.dK []) → Q (.ref p) H1) : tDNewK σ H Q := fun p hp => h p _ hp (same_upd hp) upd_same
/-! k in d, d.get(k), d.get(k, x), d.setdefault(k, x), d.pop(k), d.pop(k, x) -/
def dinK (y : V) (Q : VK) : V → Hp → Prop := fun x H2 => ∃ a o, x = .ref a ∧ DGet H2 a y o ∧ Q (.bl o.isSome) H2
theorem x_din (h : ty σ H fun y H1 => td σ H1 (dinK y Q)) : tDIn ty td σ H Q := h
def dninK (y : V) (Q : VK) : V → Hp → Prop := fun x H2 => ∃ a o, x = .ref a ∧ DGet H2 a y o ∧ Q (.bl (!o.isSome)) H2
theorem x_dnin (h : ty σ H fun y H1 => td σ H1 (dninK y Q)) : tDNotIn ty td σ H Q := h
theorem x_dninI {n : Int} (h : H a = some (.dK kvs)) (q : Q (.bl (!(valV kvs (.inl n)).isSome)) H) : dninK (.int n) Q (.ref a) H := ⟨a, _, rfl, DGet.k (k := .inl n) h, q⟩
theorem x_dinI {n : Int} (h : H a = some (.dK kvs)) (q : Q (.bl (valV kvs (.inl n)).isSome) H) : dinK (.int n) Q (.ref a) H := ⟨a, _, rfl, DGet.k (k := .inl n) h, q⟩
def dg1E (a : Addr) (Q : VK) : V → Hp → Prop := fun y H2 => ∃ o, DGet H2 a y o ∧ Q (o.getD .non) H2
def dg1K (ty : TE) (Q : VK) (σ : L2.St) : V → Hp → Prop := fun x H1 => ∃ a, x = .ref a ∧ IsD H1 a ∧ ty σ H1 (dg1E a Q)
theorem x_dget1 (h : td σ H (dg1K ty Q σ)) : tDGet1 td ty σ H Q := h
theorem x_dg1K (h : H a = some (.dK kvs)) (q : ty σ H (dg1E a Q)) : dg1K ty Q σ (.ref a) H := ⟨a, rfl, .inl ⟨kvs, .inl h⟩, q⟩
theorem x_dg1I {n : Int} (h : H a = some (.dK kvs)) (q : Q ((valV kvs (.inl n)).getD .non) H) : dg1E a Q (.int n) H := ⟨_, DGet.k (k := .inl n) h, q⟩
def dsE (a : Addr) (Q : VK) (y : V) : V → Hp → Prop := fun z H3 => ∃ (kvs : List (L2.Key × V)) (k : L2.Key), H3 a = some (.dK kvs) ∧ y = kV k ∧ kvs.length < sizeLine ∧ (∀ v, valV kvs k = some v → Q v H3) ∧ (valV kvs k = none → Q z (L2.upd H3 a (.dK (putK kvs k z))))
def dsK (ty tx : TE) (Q : VK) (σ : L2.St) : V → Hp → Prop := fun x H1 => ∃ a, x = .ref a ∧ IsD H1 a ∧ ty σ H1 fun y H2 => tx σ H2 (dsE a Q y)
theorem x_dsetd {tx : TE} (h : td σ H (dsK ty tx Q σ)) : tDSetd td ty tx σ H Q := h
theorem x_dsK {tx : TE} (h : H a = some (.dK kvs)) (q : ty σ H fun y H2 => tx σ H2 (dsE a Q y)) : dsK ty tx Q σ (.ref a) H := ⟨a, rfl, .inl ⟨kvs, .inl h⟩, q⟩
def dpp1E (a : Addr) (Q : VK) : V → Hp → Prop := fun y H2 => ∃ kvs k v, H2 a = some (.dK kvs) ∧ y = kV k ∧ valV kvs k = some v ∧ Q v (L2.upd H2 a (.dK (dropK kvs k)))
def dpp1K (ty : TE) (Q : VK) (σ : L2.St) : V → Hp → Prop := fun x H1 => ∃ a, x = .ref a ∧ IsD H1 a ∧ ty σ H1 (dpp1E a Q)
theorem x_dpop1 (h : td σ H (dpp1K ty Q σ)) : tDPop1 td ty σ H Q := h
theorem x_dpp1K (h : H a = some (.dK kvs)) (q : ty σ H (dpp1E a Q)) : dpp1K ty Q σ (.ref a) H := ⟨a, rfl, .inl ⟨kvs, .inl h⟩, q⟩
def dpp2E (a : Addr) (Q : VK) (y : V) : V → Hp → Prop := fun z H3 => ∃ kvs k, H3 a = some (.dK kvs) ∧ y = kV k ∧ (∀ v, valV kvs k = some v → Q v (L2.upd H3 a (.dK (dropK kvs k)))) ∧ (valV kvs k = none → Q z H3)
def dpp2K (ty tx : TE) (Q : VK) (σ : L2.St) : V → Hp → Prop := fun x H1 => ∃ a, x = .ref a ∧ IsD H1 a ∧ ty σ H1 fun y H2 => tx σ H2 (dpp2E a Q y)
theorem x_dpop2 {tx : TE} (h : td σ H (dpp2K ty tx Q σ)) : tDPop2 td ty tx σ H Q := h
theorem x_dpp2K {tx : TE} (h : H a = some (.dK kvs)) (q : ty σ H fun y H2 => tx σ H2 (dpp2E a Q y)) : dpp2K ty tx Q σ (.ref a) H := ⟨a, rfl, .inl ⟨kvs, .inl h⟩, q⟩
end
/-! ### exceptions -/
section
variable {X : Cx} {K : PySem.W.Frag} {W Wout : WX} {D : Ends} {σ : L2.St} {H : Hp} {cls c : Value} {d : Option Addr} {a C fI : Addr} {Q : VK}
def tRaise (t : L2.St → Hp → XK → Prop) (W : WX) : TS := fun _ σ H => t σ H fun cls d H' => W cls d σ H'
def tMkE (C : Addr) : L2.St → Hp → XK → Prop := fun _ H Q => Q (.ref C) none H
theorem x_raise {t : L2.St → Hp → XK → Prop} (h : t σ H fun cls d H' => W cls d σ H') : tRaise t W D σ H := h
theorem x_seqR {t : L2.St → Hp → XK → Prop} {u : TS} (h : tRaise t W { D with nx := u D } σ H) : tSeq (tRaise t W) u D σ H := h
theorem x_mkE {Q : XK} (q : Q (.ref C) none H) : tMkE C σ H Q := q
def tTry1 (K : PySem.W.Frag) (c : Value) (tb : WX → TS) (ts : Addr → Value → Option Addr → TS) (Wout : WX) : TS := fun D σ H => tb (wOnly K c ts Wout D) D σ H
theorem x_try1 {tb : WX → TS} {ts : Addr → Value → Option Addr → TS} (h : tb (wOnly K c ts Wout D) D σ H) : tTry1 K c tb ts Wout D σ H := h
theorem x_seqT1 {tb : WX → TS} {ts : Addr → Value → Option Addr → TS} {u : TS} (h : tTry1 K c tb ts Wout { D with nx := u D } σ H) : tSeq (tTry1 K c tb ts Wout) u D σ H := h
def tTryA (K : PySem.W.Frag) (c : Value) (i : Nat) (tb : WX → TS) (ts : Addr → Value → Option Addr → TS) (Wout : WX) : TS := fun D σ H => tb (wAs K c i ts Wout D) D σ H
theorem x_tryA {i : Nat} {tb : WX → TS} {ts : Addr → Value → Option Addr → TS} (h : tb (wAs K c i ts Wout D) D σ H) : tTryA K c i tb ts Wout D σ H := h
theorem x_seqTA {i : Nat} {tb : WX → TS} {ts : Addr → Value → Option Addr → TS} {u : TS} (h : tTryA K c i tb ts Wout { D with nx := u D } σ H) : tSeq (tTryA K c i tb ts Wout) u D σ H := h
/-! several except clauses -/
def tTryM (K : PySem.W.Frag) (l : List (Value × (Addr → Value → Option Addr → TS))) (tb : WX → TS) (Wout : WX) : TS := fun D σ H => tb (wMany K Wout D l) D σ H
theorem x_tryM {l : List (Value × (Addr → Value → Option Addr → TS))} {tb : WX → TS} (h : tb (wMany K Wout D l) D σ H) : tTryM K l tb Wout D σ H := h
theorem x_seqTM {l : List (Value × (Addr → Value → Option Addr → TS))} {tb : WX → TS} {u : TS} (h : tTryM K l tb Wout { D with nx := u D } σ H) : tSeq (tTryM K l tb Wout) u D σ H := h
/-- e.f of a caught exception -/
def xfK (a : Addr) (cls : Value) (d : Option Addr) (C : Addr) (f : Str) (Q : VK) : V → Hp → Prop := fun x H1 => x = .ref a ∧ cls = .ref C ∧ ∃ (dd : Addr) (fs : List (Str × V)) (v : V), d = some dd ∧ H1 dd = some (.xd fs) ∧ fs.lookup f = some v ∧ Q v H1
theorem x_xf {f : Str} {te : TE} (h : te σ H (xfK a cls d C f Q)) : tXf a cls d C f te σ H Q := h
/-! a class with an own __init__ -/
def veK (K : PySem.W.Frag) (Q : VK) : List V → Hp → Prop := fun vs H1 => ∃ (a C : Addr) (ws : List V), vs = .ref a :: ws ∧ ws.length ≤ 1000 ∧ OexC K C ∧ H1 a = some (exo a C none) ∧ Q .non H1
theorem x_vei {ta : TA} (h : ta σ H (veK K Q)) : tVeI K ta σ H Q := h
def moK (C : Addr) (sp : Sp) (dvs : List V) (Q : XK) : List V → Hp → Prop := fun vs H1 => vs.length ≤ 1000 ∧ ∀ a, H1 a = none → sp (.ref a :: (vs ++ dvs)) (upd H1 a (exo a C none))
  (fun v H2 => v = .non ∧ ∃ (d : Addr) (fs : List (Str × V)), H2 a = some (exo a C (some d)) ∧ H2 d = some (exd d fs) ∧ H1 d = none ∧ Q (.ref C) (some d) (upd (del H2 a) d (.xd fs))) (fun _ _ _ => False)
theorem x_mkO {sp : Sp} {dvs : List V} {Q : XK} {ta : TA} (h : ta σ H (moK C sp dvs Q)) : tMkO C sp dvs ta σ H Q := h
end
/-! several except clauses, some of them with a name -/
section
variable {X : Cx}
/-- what a clause does with an exception at q: the slot of its name, if it has one, holds it -/
def inAs (o : Option Nat) (ts : Addr → Value → Option Addr → TS) (q : Addr) (cls : Value) (d : Option Addr) : TS := match o with
  | none => ts q cls d
  | some i => fun D σ H => ts q cls d { nx := fun σ' H' => D.nx (σ'.set i none) H', rt := D.rt, bk := fun σ' H' => D.bk (σ'.set i none) H', ct := fun σ' H' => D.ct (σ'.set i none) H' } (σ.set i (some (.ref q))) H
def wMix (K : PySem.W.Frag) (Wout : WX) (D : Ends) : List (Value × Option Nat × (Addr → Value → Option Addr → TS)) → WX
  | [] => Wout
  | (c, o, ts) :: r => fun cls d σ H => ∃ b, PySem.W.exmOne K cls c = some b ∧ (b = true → ∀ q, H q = none → inAs o ts q cls d D σ H) ∧ (b = false → wMix K Wout D r cls d σ H)
def tMix (K : PySem.W.Frag) (l : List (Value × Option Nat × (Addr → Value → Option Addr → TS))) (tb : WX → TS) (Wout : WX) : TS := fun D σ H => tb (wMix K Wout D l) D σ H
variable {K : PySem.W.Frag} {Wout : WX} {D : Ends} {σ : L2.St} {H : Hp} {cls c : Value} {d : Option Addr}
theorem x_mix {l : List (Value × Option Nat × (Addr → Value → Option Addr → TS))} {tb : WX → TS} (h : tb (wMix K Wout D l) D σ H) : tMix K l tb Wout D σ H := h
theorem x_seqMix {l : List (Value × Option Nat × (Addr → Value → Option Addr → TS))} {tb : WX → TS} {u : TS} (h : tMix K l tb Wout { D with nx := u D } σ H) : tSeq (tMix K l tb Wout) u D σ H := h
end
/-! list(reversed(x)), x a list -/
section
variable {X : Cx}
def tListRev (K : PySem.W.Frag) (te : TE) : TE := fun σ H Q => te σ H fun v H1 => ∃ (a : Addr) (xs : List V), v = .ref a ∧ SqL K H1 a xs ∧ ∀ q, H1 q = none → Q (.ref q) (upd H1 q (.lst xs.reverse))
def lrK (K : PySem.W.Frag) (Q : VK) : V → Hp → Prop := fun v H1 => ∃ (a : Addr) (xs : List V), v = .ref a ∧ SqL K H1 a xs ∧ ∀ q, H1 q = none → Q (.ref q) (upd H1 q (.lst xs.reverse))
theorem x_listRev {K : PySem.W.Frag} {te : TE} {σ : L2.St} {H : Hp} {Q : VK} (h : te σ H (lrK K Q)) : tListRev K te σ H Q := h
theorem x_lrK {K : PySem.W.Frag} {H : Hp} {a : Addr} {xs : List V} {Q : VK} (h : SqL K H a xs) (q : New H Q (.lst xs.reverse)) : lrK K Q (.ref a) H := ⟨a, xs, rfl, h, q.mk⟩
end
/-! sorted pairs of numbers -/
def leP (a b : Int × Int) : Bool := !SrtO.lexB b a
def sortP (l : List (Int × Int)) : List (Int × Int) := l.mergeSort leP
/-- a list of tuples of two numbers each -/
def PairL (H : Hp) (xs : List V) (l : List (Int × Int)) : Prop := xs.length = l.length ∧ ∀ (i : Nat) x e, xs[i]? = some x → l[i]? = some e → ∃ t, x = .ref t ∧ H t = some (.tup [.int e.1, .int e.2])
theorem PairL.mono {H H' : Hp} {xs : List V} {l : List (Int × Int)} (s : TupS H H') (h : PairL H xs l) : PairL H' xs l := ⟨h.1, fun i x e h1 h2 => by
  obtain ⟨t, q, h⟩ := h.2 i x e h1 h2
  exact ⟨t, q, s _ _ h⟩⟩
theorem PairL.nil {H : Hp} : PairL H [] [] := ⟨rfl, fun i x e h _ => by simp at h⟩
theorem PairL.snoc {H : Hp} {xs : List V} {l : List (Int × Int)} {v : V} {e : Int × Int} (h : PairL H xs l) (hv : ∃ t, v = .ref t ∧ H t = some (.tup [.int e.1, .int e.2])) : PairL H (xs ++ [v]) (l ++ [e]) := by
  refine ⟨by simp [h.1], fun i x y h1 h2 => ?_⟩
  by_cases hi : i < xs.length
  · rw [List.getElem?_append_left hi] at h1
    rw [List.getElem?_append_left (h.1 ▸ hi)] at h2
    exact h.2 i x y h1 h2
  · have e1 : i = xs.length := by
      have := (List.getElem?_eq_some_iff.mp h1).1
      simp at this
      omega
    subst e1
    rw [List.getElem?_append_right (Nat.le_refl _)] at h1
    rw [h.1, List.getElem?_append_right (Nat.le_refl _)] at h2
    simp at h1 h2
    subst h1 h2
    exact hv
def pairV (H : Hp) : V → Int × Int
  | .ref t => match H t with
    | some (.tup [.int i, .int j]) => (i, j)
    | _ => (0, 0)
  | _ => (0, 0)
theorem pairV_ref {H : Hp} {t : Addr} {i j : Int} (h : H t = some (.tup [.int i, .int j])) : pairV H (.ref t) = (i, j) := by
  unfold pairV
  simp only [h]
theorem PairL.map {H : Hp} {xs : List V} {l : List (Int × Int)} (h : PairL H xs l) : xs.map (pairV H) = l := by
  refine List.ext_getElem? fun i => ?_
  rw [List.getElem?_map]
  cases e1 : xs[i]? with
  | none =>
    have := h.1
    rw [List.getElem?_eq_none_iff] at e1
    rw [List.getElem?_eq_none (by omega)]
    rfl
  | some x =>
    have hl := (List.getElem?_eq_some_iff.mp e1).1
    obtain ⟨e, e2⟩ : ∃ e, l[i]? = some e := ⟨_, List.getElem?_eq_getElem (by have := h.1; omega)⟩
    obtain ⟨t, rfl, ht⟩ := h.2 i x e e1 e2
    rw [e2, Option.map_some, pairV_ref ht]
theorem PairL.mem {H : Hp} {xs : List V} {l : List (Int × Int)} (h : PairL H xs l) {x : V} (hx : x ∈ xs) : ∃ t, x = .ref t ∧ H t = some (.tup [.int (pairV H x).1, .int (pairV H x).2]) := by
  obtain ⟨i, e1⟩ := List.mem_iff_getElem?.mp hx
  have hl := (List.getElem?_eq_some_iff.mp e1).1
  obtain ⟨e, e2⟩ : ∃ e, l[i]? = some e := ⟨_, List.getElem?_eq_getElem (by have := h.1; omega)⟩
  obtain ⟨t, rfl, ht⟩ := h.2 i x e e1 e2
  exact ⟨t, rfl, by rw [pairV_ref ht]; exact ht⟩
/-! sorted tuples of whole numbers, fewer than 64 -/
/-- a list of tuples of whole numbers -/
def TupL (H : Hp) (xs : List V) (ls : List (List Int)) : Prop := xs.length = ls.length ∧ ∀ (i : Nat) x e, xs[i]? = some x → ls[i]? = some e → ∃ t, x = .ref t ∧ H t = some (.tup (e.map V.int))
theorem TupL.mono {H H' : Hp} {xs : List V} {l : List (List Int)} (s : TupS H H') (h : TupL H xs l) : TupL H' xs l := ⟨h.1, fun i x e h1 h2 => by
  obtain ⟨t, q, h⟩ := h.2 i x e h1 h2
  exact ⟨t, q, s _ _ h⟩⟩
theorem TupL.nil {H : Hp} : TupL H [] [] := ⟨rfl, fun i x e h _ => by simp at h⟩
theorem TupL.snoc {H : Hp} {xs : List V} {l : List (List Int)} {v : V} {e : List Int} (h : TupL H xs l) (hv : ∃ t, v = .ref t ∧ H t = some (.tup (e.map V.int))) : TupL H (xs ++ [v]) (l ++ [e]) := by
  refine ⟨by simp [h.1], fun i x y h1 h2 => ?_⟩
  by_cases hi : i < xs.length
  · rw [List.getElem?_append_left hi] at h1
    rw [List.getElem?_append_left (h.1 ▸ hi)] at h2
    exact h.2 i x y h1 h2
  · have e1 : i = xs.length := by
      have := (List.getElem?_eq_some_iff.mp h1).1
      simp at this
      omega
    subst e1
    rw [List.getElem?_append_right (Nat.le_refl _)] at h1
    rw [h.1, List.getElem?_append_right (Nat.le_refl _)] at h2
    simp at h1 h2
    subst h1 h2
    exact hv
theorem TupL.take {H : Hp} {ws : List V} {is : List (List Int)} (h : TupL H ws is) (m : Nat) : TupL H (ws.take m) (is.take m) := ⟨by rw [List.length_take, List.length_take, h.1], fun i x e h1 h2 => by
  rw [List.getElem?_take] at h1 h2
  split at h1
  · rename_i hi
    rw [if_pos hi] at h2
    exact h.2 i x e h1 h2
  · cases h1⟩
def vInt : V → Int
  | .int n => n
  | _ => 0
theorem vInt_map (e : List Int) : (e.map V.int).map vInt = e := by
  rw [List.map_map]
  exact List.map_id'' (fun _ => rfl) e
def tupV (H : Hp) : V → List Int
  | .ref t => match H t with
    | some (.tup vs) => vs.map vInt
    | _ => []
  | _ => []
theorem tupV_ref {H : Hp} {t : Addr} {e : List Int} (h : H t = some (.tup (e.map V.int))) : tupV H (.ref t) = e := by
  unfold tupV
  simp only [h]
  exact vInt_map e
theorem TupL.get {H : Hp} {xs : List V} {l : List (List Int)} (h : TupL H xs l) {i : Nat} {x : V} (hi : xs[i]? = some x) : ∃ e t, l[i]? = some e ∧ x = .ref t ∧ H t = some (.tup (e.map V.int)) := by
  have hl := (List.getElem?_eq_some_iff.mp hi).1
  obtain ⟨e, e2⟩ : ∃ e, l[i]? = some e := ⟨_, List.getElem?_eq_getElem (by have := h.1; omega)⟩
  obtain ⟨t, rfl, ht⟩ := h.2 i x e hi e2
  exact ⟨e, t, e2, rfl, ht⟩
theorem TupL.map {H : Hp} {xs : List V} {l : List (List Int)} (h : TupL H xs l) : xs.map (tupV H) = l := by
  refine List.ext_getElem? fun i => ?_
  rw [List.getElem?_map]
  cases e1 : xs[i]? with
  | none =>
    have := h.1
    rw [List.getElem?_eq_none_iff] at e1
    rw [List.getElem?_eq_none (by omega)]
    rfl
  | some x =>
    obtain ⟨e, t, e2, rfl, ht⟩ := h.get e1
    rw [e2, Option.map_some, tupV_ref ht]
theorem TupL.mem {H : Hp} {xs : List V} {l : List (List Int)} (h : TupL H xs l) {x : V} (hx : x ∈ xs) : tupV H x ∈ l ∧ ∃ t, x = .ref t ∧ H t = some (.tup ((tupV H x).map V.int)) := by
  obtain ⟨i, e1⟩ := List.mem_iff_getElem?.mp hx
  obtain ⟨e, t, e2, rfl, ht⟩ := h.get e1
  rw [tupV_ref ht]
  exact ⟨List.mem_of_getElem? e2, t, rfl, ht⟩
/-! sorted numbers -/
/-! a comprehension over the keys of a dict -/
/-! a loop over the values of a dict, which is locked meanwhile -/
/-! min of a list of pairs of numbers -/
/-! ### built-in calls -/
section
variable {X : Cx}
def uMax (K : PySem.W.Frag) : List V → Hp → VK → Prop := fun xs H Q => (∃ i j, xs = [.int i, .int j] ∧ Q (.int (if j > i then j else i)) H) ∨ rMax K xs H Q
def uMin (K : PySem.W.Frag) : List V → Hp → VK → Prop := fun xs H Q => (∃ i j, xs = [.int i, .int j] ∧ Q (.int (if j < i then j else i)) H) ∨ rMin K xs H Q
theorem cr_umin (hc : X.calm = true := by rfl) : CallR X (.builtin "min") (uMin X.K) := (call_min2 hc).or (cr_min hc)
theorem cr_usum (hc : X.calm = true := by rfl) : CallR X (.builtin "sum") (rSum X.K) := cr_sum hc
def uList (K : PySem.W.Frag) : List V → Hp → VK → Prop := fun xs H Q => (∃ p ys, xs = [.ref p] ∧ (SqL K H p ys ∨ SqT K H p ys) ∧ ∀ l, H l = none → Q (.ref l) (upd H l (.lst ys))) ∨ rListD xs H Q
theorem ct_list (hc : X.calm = true := by rfl) : CallR X (.type "list") (uList X.K) := call_list_of.or (call_list_dK hc)
def uTup (K : PySem.W.Frag) : List V → Hp → VK → Prop := fun xs H Q => ∃ x, xs = [x] ∧ kTup K x H Q
def uInt : List V → Hp → VK → Prop := fun xs H Q => (∃ i, xs = [.int i] ∧ Q (.int i) H) ∨ ∃ k, xs = [.bl k] ∧ Q (.int (if k then 1 else 0)) H
theorem bt_min : bootBuiltins "min" = some (.builtin "min") := by decide +kernel
theorem bt_sum : bootBuiltins "sum" = some (.builtin "sum") := by decide +kernel
def uLen (K : PySem.W.Frag) : List V → Hp → VK → Prop := fun xs H Q => (∃ p ys, xs = [.ref p] ∧ (SqL K H p ys ∨ SqT K H p ys) ∧ Q (.int ys.length) H) ∨ ((∃ z, xs = [.str z] ∧ z.length ≤ sizeLine ∧ Q (.int z.length) H) ∨ (∃ a kvs, xs = [V.ref a] ∧ H a = some (.dK kvs) ∧ Q (.int kvs.length) H))
theorem cr_ulen : CallR X (.builtin "len") (uLen X.K) := call_len_seq.or (call_len_str.or call_lenD)
def uIsi (K : PySem.W.Frag) : List V → Hp → VK → Prop := rIsi K
theorem cr_uisinstance : CallR X (.builtin "isinstance") (uIsi X.K) := call_isi
def uStr : List V → Hp → VK → Prop := fun xs H Q => ∃ i, xs = [.int i] ∧ i.natAbs.log2 < 1920 ∧ Q (.str (toString i)) H
theorem bt_isinstance : bootBuiltins "isinstance" = some (.builtin "isinstance") := by decide +kernel
theorem bt_int : bootBuiltins "int" = some (.type "int") := by decide +kernel
theorem bt_bool : bootBuiltins "bool" = some (.type "bool") := by decide +kernel
theorem bt_list : bootBuiltins "list" = some (.type "list") := by decide +kernel
theorem bt_tuple : bootBuiltins "tuple" = some (.type "tuple") := by decide +kernel
theorem bt_len : bootBuiltins "len" = some (.builtin "len") := by decide +kernel
end
section
variable {σ : L2.St} {H : Hp} {K : PySem.W.Frag} {Q : VK} {p : Addr} {xs : List V} {n : Int} {v : V}
theorem x_lenL (h : SqL K H p xs) (q : Q (.int xs.length) H) : uLen K [.ref p] H Q := .inl ⟨p, xs, rfl, .inl h, q⟩
theorem x_lenM {α : Type} {l : List α} {f : α → V} (h : SqL K H p (l.map f)) (q : Q (.int l.length) H) : uLen K [.ref p] H Q := .inl ⟨p, _, rfl, .inl h, by rw [List.length_map]; exact q⟩
theorem x_lenT (h : SqT K H p xs) (q : Q (.int xs.length) H) : uLen K [.ref p] H Q := .inl ⟨p, xs, rfl, .inr h, q⟩
/-- the built-in class of a value -/
def tyN : V → Option String
  | .non => some "NoneType" | .bl _ => some "bool" | .int _ => some "int" | .str _ => some "str" | .flt _ => some "float" | _ => none
theorem x_isiV {c : String} {t : String} {b : Bool} (ht : tyN v = some t) (hk : kitB t c = some b) (q : Q (.bl b) H) : uIsi K [v, .ty c] H Q := by
  have ty : TyX K H v (.type t) := by
    cases v <;> simp only [tyN, Option.some.injEq, reduceCtorEq] at ht <;> subst ht
    · exact .base .non
    · exact .base (.bl _)
    · exact .base (.int _)
    · exact .base (.str _)
    · exact .base (.flt _)
  exact ⟨v, .ty c, .type t, .type c, b, rfl, .ty c, ty, kit_ty hk, q⟩
theorem x_isiR {c t : String} {b : Bool} (ty : TyX K H (.ref p) (.type t)) (hk : kitB t c = some b) (q : Q (.bl b) H) : uIsi K [.ref p, .ty c] H Q :=
  ⟨.ref p, .ty c, .type t, .type c, b, rfl, .ty c, ty, kit_ty hk, q⟩
theorem x_isiNon_int (q : Q (.bl false) H) : uIsi K [V.non, .ty "int"] H Q := x_isiV rfl (by decide +kernel) q
theorem x_isiNon_bool (q : Q (.bl false) H) : uIsi K [V.non, .ty "bool"] H Q := x_isiV rfl (by decide +kernel) q
theorem x_isiNon_str (q : Q (.bl false) H) : uIsi K [V.non, .ty "str"] H Q := x_isiV rfl (by decide +kernel) q
theorem x_isiNon_list (q : Q (.bl false) H) : uIsi K [V.non, .ty "list"] H Q := x_isiV rfl (by decide +kernel) q
theorem x_isiNon_tuple (q : Q (.bl false) H) : uIsi K [V.non, .ty "tuple"] H Q := x_isiV rfl (by decide +kernel) q
theorem x_isiNon_dict (q : Q (.bl false) H) : uIsi K [V.non, .ty "dict"] H Q := x_isiV rfl (by decide +kernel) q
theorem x_isiBl_int {b : Bool} (q : Q (.bl true) H) : uIsi K [(V.bl b), .ty "int"] H Q := x_isiV rfl (by decide +kernel) q
theorem x_isiBl_bool {b : Bool} (q : Q (.bl true) H) : uIsi K [(V.bl b), .ty "bool"] H Q := x_isiV rfl (by decide +kernel) q
theorem x_isiBl_str {b : Bool} (q : Q (.bl false) H) : uIsi K [(V.bl b), .ty "str"] H Q := x_isiV rfl (by decide +kernel) q
theorem x_isiBl_list {b : Bool} (q : Q (.bl false) H) : uIsi K [(V.bl b), .ty "list"] H Q := x_isiV rfl (by decide +kernel) q
theorem x_isiBl_tuple {b : Bool} (q : Q (.bl false) H) : uIsi K [(V.bl b), .ty "tuple"] H Q := x_isiV rfl (by decide +kernel) q
theorem x_isiBl_dict {b : Bool} (q : Q (.bl false) H) : uIsi K [(V.bl b), .ty "dict"] H Q := x_isiV rfl (by decide +kernel) q
theorem x_isiInt_int (q : Q (.bl true) H) : uIsi K [(V.int n), .ty "int"] H Q := x_isiV rfl (by decide +kernel) q
theorem x_isiInt_bool (q : Q (.bl false) H) : uIsi K [(V.int n), .ty "bool"] H Q := x_isiV rfl (by decide +kernel) q
theorem x_isiInt_str (q : Q (.bl false) H) : uIsi K [(V.int n), .ty "str"] H Q := x_isiV rfl (by decide +kernel) q
theorem x_isiInt_list (q : Q (.bl false) H) : uIsi K [(V.int n), .ty "list"] H Q := x_isiV rfl (by decide +kernel) q
theorem x_isiInt_tuple (q : Q (.bl false) H) : uIsi K [(V.int n), .ty "tuple"] H Q := x_isiV rfl (by decide +kernel) q
theorem x_isiInt_dict (q : Q (.bl false) H) : uIsi K [(V.int n), .ty "dict"] H Q := x_isiV rfl (by decide +kernel) q
theorem x_isiStr_int {z : Str} (q : Q (.bl false) H) : uIsi K [(V.str z), .ty "int"] H Q := x_isiV rfl (by decide +kernel) q
theorem x_isiStr_bool {z : Str} (q : Q (.bl false) H) : uIsi K [(V.str z), .ty "bool"] H Q := x_isiV rfl (by decide +kernel) q
theorem x_isiStr_str {z : Str} (q : Q (.bl true) H) : uIsi K [(V.str z), .ty "str"] H Q := x_isiV rfl (by decide +kernel) q
theorem x_isiStr_list {z : Str} (q : Q (.bl false) H) : uIsi K [(V.str z), .ty "list"] H Q := x_isiV rfl (by decide +kernel) q
theorem x_isiStr_tuple {z : Str} (q : Q (.bl false) H) : uIsi K [(V.str z), .ty "tuple"] H Q := x_isiV rfl (by decide +kernel) q
theorem x_isiStr_dict {z : Str} (q : Q (.bl false) H) : uIsi K [(V.str z), .ty "dict"] H Q := x_isiV rfl (by decide +kernel) q
theorem x_isiLst_int (h : H p = some (.lst xs)) (q : Q (.bl false) H) : uIsi K [.ref p, .ty "int"] H Q := x_isiR (.base (.lst h)) (by decide +kernel) q
theorem x_isiLst_bool (h : H p = some (.lst xs)) (q : Q (.bl false) H) : uIsi K [.ref p, .ty "bool"] H Q := x_isiR (.base (.lst h)) (by decide +kernel) q
theorem x_isiLst_str (h : H p = some (.lst xs)) (q : Q (.bl false) H) : uIsi K [.ref p, .ty "str"] H Q := x_isiR (.base (.lst h)) (by decide +kernel) q
theorem x_isiLst_list (h : H p = some (.lst xs)) (q : Q (.bl true) H) : uIsi K [.ref p, .ty "list"] H Q := x_isiR (.base (.lst h)) (by decide +kernel) q
theorem x_isiLst_tuple (h : H p = some (.lst xs)) (q : Q (.bl false) H) : uIsi K [.ref p, .ty "tuple"] H Q := x_isiR (.base (.lst h)) (by decide +kernel) q
theorem x_isiLst_dict (h : H p = some (.lst xs)) (q : Q (.bl false) H) : uIsi K [.ref p, .ty "dict"] H Q := x_isiR (.base (.lst h)) (by decide +kernel) q
theorem x_isiTup_int (h : H p = some (.tup xs)) (q : Q (.bl false) H) : uIsi K [.ref p, .ty "int"] H Q := x_isiR (.base (.tup h)) (by decide +kernel) q
theorem x_isiTup_bool (h : H p = some (.tup xs)) (q : Q (.bl false) H) : uIsi K [.ref p, .ty "bool"] H Q := x_isiR (.base (.tup h)) (by decide +kernel) q
theorem x_isiTup_str (h : H p = some (.tup xs)) (q : Q (.bl false) H) : uIsi K [.ref p, .ty "str"] H Q := x_isiR (.base (.tup h)) (by decide +kernel) q
theorem x_isiTup_list (h : H p = some (.tup xs)) (q : Q (.bl false) H) : uIsi K [.ref p, .ty "list"] H Q := x_isiR (.base (.tup h)) (by decide +kernel) q
theorem x_isiTup_tuple (h : H p = some (.tup xs)) (q : Q (.bl true) H) : uIsi K [.ref p, .ty "tuple"] H Q := x_isiR (.base (.tup h)) (by decide +kernel) q
theorem x_isiTup_dict (h : H p = some (.tup xs)) (q : Q (.bl false) H) : uIsi K [.ref p, .ty "dict"] H Q := x_isiR (.base (.tup h)) (by decide +kernel) q
theorem x_isiDk_int {kvs : List (Key × V)} (h : H p = some (.dK kvs)) (q : Q (.bl false) H) : uIsi K [.ref p, .ty "int"] H Q := x_isiR (.base (.dK h)) (by decide +kernel) q
theorem x_isiDk_bool {kvs : List (Key × V)} (h : H p = some (.dK kvs)) (q : Q (.bl false) H) : uIsi K [.ref p, .ty "bool"] H Q := x_isiR (.base (.dK h)) (by decide +kernel) q
theorem x_isiDk_str {kvs : List (Key × V)} (h : H p = some (.dK kvs)) (q : Q (.bl false) H) : uIsi K [.ref p, .ty "str"] H Q := x_isiR (.base (.dK h)) (by decide +kernel) q
theorem x_isiDk_list {kvs : List (Key × V)} (h : H p = some (.dK kvs)) (q : Q (.bl false) H) : uIsi K [.ref p, .ty "list"] H Q := x_isiR (.base (.dK h)) (by decide +kernel) q
theorem x_isiDk_tuple {kvs : List (Key × V)} (h : H p = some (.dK kvs)) (q : Q (.bl false) H) : uIsi K [.ref p, .ty "tuple"] H Q := x_isiR (.base (.dK h)) (by decide +kernel) q
theorem x_isiDk_dict {kvs : List (Key × V)} (h : H p = some (.dK kvs)) (q : Q (.bl true) H) : uIsi K [.ref p, .ty "dict"] H Q := x_isiR (.base (.dK h)) (by decide +kernel) q
theorem x_intB {b : Bool} (q : Q (.int (if b then 1 else 0)) H) : uInt [.bl b] H Q := .inr ⟨b, rfl, q⟩
theorem x_intI {m : Int} (q : Q (.int m) H) : uInt [.int m] H Q := .inl ⟨m, rfl, q⟩
theorem x_max2 {m n : Int} (q : Q (.int (if n > m then n else m)) H) : uMax K [.int m, .int n] H Q := .inl ⟨m, n, rfl, q⟩
theorem x_min2 {m n : Int} (q : Q (.int (if n < m then n else m)) H) : uMin K [.int m, .int n] H Q := .inl ⟨m, n, rfl, q⟩
theorem x_list (h : SqL K H p xs) (q : New H Q (.lst xs)) : uList K [.ref p] H Q := .inl ⟨p, xs, rfl, .inl h, q.mk⟩
theorem x_tupL (h : SqL K H p xs) (q : New H Q (.tup xs)) : uTup K [.ref p] H Q := ⟨_, rfl, .inl ⟨p, xs, rfl, h, q.mk⟩⟩
theorem x_listD {kvs : List (L2.Key × V)} (h : H p = some (.dK kvs)) (q : New H Q (.lst (kvs.map fun kv => kV kv.1))) : uList K [.ref p] H Q := .inr ⟨p, kvs, rfl, h, q.mk⟩
theorem x_lenD {kvs : List (L2.Key × V)} (h : H p = some (.dK kvs)) (q : Q (.int kvs.length) H) : uLen K [.ref p] H Q := .inr (.inr ⟨p, kvs, rfl, h, q⟩)
theorem x_str (q : Q (.str (toString n)) H) (h : n.natAbs.log2 < 1920) : uStr [.int n] H Q := ⟨n, rfl, h, q⟩
end
/-! ### the same rules where K is told (inside a comprehension) -/
section
variable {X : Cx} {K : PySem.W.Frag} {a b e : Expr} {rest : List Expr} {ta tb : TE} {pos : Pos} {f : Str}
theorem K_ix (hK : X.K = K := by rfl) : IxR X (rIx K) := hK ▸ ix_seq
theorem K_add (hK : X.K = K := by rfl) : OpR X (binaryOp .Add) (uAdd K) := hK ▸ op_uAdd
theorem K_gtup {K : PySem.W.Frag} {es : List Expr} {k : Nat} {ts : TGs} {n : Nat} {pos : Pos} (hc : X.calm = true) (h : PGs X es ts) (hn : (assignEach es X.env).length = n := by rfl) (hst : (assignEach es X.env).findIdx? (·.1) = none := by rfl) (hK : X.K = K := by rfl) : PG X (.Tuple es k pos) (gTup K n ts) := hK ▸ pg_tup hc h hn hst
end
/-! sorted(d.items()), d a dict from whole numbers to whole numbers -/
/-! ### min(xs, default=d), max(xs, default=d); Base.__init__(self, ..) -/
/-! isinstance(x, C) of an own instance -/
/-! ### a caught exception as an object that is tracked -/
section
/-- the object at a is oe -/
def PinO (a : Addr) (oe : Obj) : HO := .ext fun h => h.get? a = some oe
theorem pinO_ok {P : Program} {w : World} {H : Hp} {h : Heap} {a : Addr} {oe : Obj} (e : h.get? a = some oe) : ObjOk P w H h a (PinO a oe) := ⟨e, ⟨oe, e⟩, fun _ _ q k => k oe q⟩
/-- an exception of the class cls, its own dict at d -/
def ExV (H : Hp) (a : Addr) (cls : Value) (d : Option Addr) : Prop := ∃ oe, H a = some (PinO a oe) ∧ Zc cls d oe ∧ ∃ vs, oe.data = .fields vs
theorem ExV.mono {H H' : Hp} {a : Addr} {cls : Value} {d : Option Addr} (s : Same H H') (h : ExV H a cls d) : ExV H' a cls d := by
  obtain ⟨oe, e, r⟩ := h
  exact ⟨oe, s _ _ e, r⟩
variable {X : Cx} {pins : List (Addr × Obj)} {σ : L2.St} {H : Hp} {s sI : Shared}
end
section
variable {X : Cx} {x n : Str} {c : Value} {i : Nat} {body suite : List Stmt} {b₀ : Stmt} {np pos pos' : Pos} {tb : WX → TS} {ts : TS} {Wout : WX}
def wAsK (K : PySem.W.Frag) (c : Value) (i : Nat) (ts : TS) (Wout : WX) (D : Ends) : WX := fun cls d σ H =>
  ∃ b, PySem.W.exmOne K cls c = some b ∧ (b = true → ∀ a oe, H a = none → Zc cls d oe → (∃ vs, oe.data = .fields vs) → ts { nx := fun σ' H' => D.nx (σ'.set i none) H', rt := D.rt, bk := fun σ' H' => D.bk (σ'.set i none) H', ct := fun σ' H' => D.ct (σ'.set i none) H' } (σ.set i (some (.ref a))) (upd H a (PinO a oe))) ∧
    (b = false → Wout cls d σ H)
def tTryK (K : PySem.W.Frag) (c : Value) (i : Nat) (tb : WX → TS) (ts : TS) (Wout : WX) : TS := fun D σ H => tb (wAsK K c i ts Wout D) D σ H
variable {K : PySem.W.Frag} {D : Ends} {σ : L2.St} {H : Hp} {cls : Value} {d : Option Addr}
theorem x_tryK (h : tb (wAsK K c i ts Wout D) D σ H) : tTryK K c i tb ts Wout D σ H := h
theorem x_seqTK {u : TS} (h : tTryK K c i tb ts Wout { D with nx := u D } σ H) : tSeq (tTryK K c i tb ts Wout) u D σ H := h
end
/-! a def that is called in an except suite -/
section
open L2H
variable {X : Cx} {CX : CXT} {k : Nat} {f : Addr} {fd : FuncData} {ps : List Str} {sp : Sp} {E : L2.St → XK} {x : Str} {q pos : Pos} {e : Expr} {es : List Expr} {t : TA}
/-- isinstance(e, c), e an exception without fields that is tracked -/
def rIsV (K : PySem.W.Frag) : List V → Hp → VK → Prop := fun xs H Q => ∃ (a E : Addr) (c : V) (cv : Value) (b : Bool), xs = [.ref a, c] ∧ ExV H a (.ref E) none ∧ ExcC K E ∧ (∀ u, RelV c u → u = cv) ∧ PySem.W.kitOne K (.ref E) cv = some b ∧ Q (.bl b) H
variable {K : PySem.W.Frag} {H : Hp} {Q : VK} {a : Addr}
theorem ExV.off1 {H H' : Hp} {a p : Addr} {cls : Value} {d : Option Addr} (s : Off [p] H H') (h : ExV H a cls d) (n : a ≠ p) : ExV H' a cls d := by
  obtain ⟨oe, e, r⟩ := h
  exact ⟨oe, s.at e (nin_of n), r⟩
theorem x_isVC {E C : Addr} {b : Bool} (h : ExV H a (.ref E) none) (hE : ExcC K E) (hk : PySem.W.kitOne K (.ref E) (.ref C) = some b) (q : Q (.bl b) H) : rIsV K [.ref a, .ref C] H Q := ⟨a, E, _, .ref C, b, rfl, h, hE, fun _ z => z, hk, q⟩
theorem x_isVT {E : Addr} {t : String} {b : Bool} (h : ExV H a (.ref E) none) (hE : ExcC K E) (hk : PySem.W.kitOne K (.ref E) (.type t) = some b) (q : Q (.bl b) H) : rIsV K [.ref a, .ty t] H Q := ⟨a, E, _, .type t, b, rfl, h, hE, fun _ z => z, hk, q⟩
end
end Kit
/-! ### the head's facts, read by a Hook of one's own -/
namespace Kit
open PySem PySem.Spec PyProof.Rows L2
section
abbrev FnWK : Type := Bool × List He.FnW
/-- lists of numbers, a part of the heap: told when they are made -/
def frList {α : Type} : List Addr → (List Addr → α) → α
  | [], k => k []
  | a :: r, k => HandSHeadRun.frNat a fun a => frList r fun r => k (a :: r)
theorem frList_eq {α : Type} : ∀ (l : List Addr) (k : List Addr → α), frList l k = k l
  | [], _ => rfl
  | a :: r, k => by
    show HandSHeadRun.frNat a (fun a => frList r fun r => k (a :: r)) = _
    rw [HandSHeadRun.frNat_eq, frList_eq r]
def frFr {α : Type} (g : Addr → Option Obj) : List Addr → (PySem.W.Frag → α) → α
  | [], k => k []
  | a :: r, k => match g a with
    | some ⟨c, d, dt, sl⟩ => frFr g r fun F => k ((a, ⟨c, d, dt, sl⟩) :: F)
    | none => frFr g r k
theorem frFr_eq {α : Type} {g : Addr → Option Obj} : ∀ (l : List Addr) (k : PySem.W.Frag → α), frFr g l k = k (He.frG g l)
  | [], _ => rfl
  | a :: r, k => by
    unfold frFr He.frG
    rw [List.filterMap_cons]
    cases h : g a with
    | none => exact frFr_eq r k
    | some o =>
      obtain ⟨c, d, dt, sl⟩ := o
      exact frFr_eq r _
/-- a def: its place in the list of addresses, its text -/
structure DefK where
  i : Nat
  name : Str
  qual : Str
  params : Arguments
  body : List Stmt
  scope : Scope
  dfl : List He.Dv := []
def fnKW (K : PySem.W.Frag) (a : Addr) : He.FnW := match K.lookup a with
  | some ⟨_, _, .func fd, _⟩ => some (fd.name, fd.qualname, fd.params, fd.body, fd.scope, fd.globals, fd.closure, fd.builtins)
  | _ => none
def DefK.val (d : DefK) : He.FnW := some (d.name, d.qual, d.params, .stmts d.body, d.scope, mainGlobals, [], builtinsNs)
def DefK.dvs (K : PySem.W.Frag) (d : DefK) : List V := d.dfl.map (He.Dv.v K)
def DefK.ok (K : PySem.W.Frag) (A : List Addr) (d : DefK) : Bool := PySem.W.keepIn K (.ref (A.getD d.i 0)) && (match K.lookup (A.getD d.i 0) with
  | some ⟨_, _, .func fd, _⟩ => PySem.W.codeIn K fd.code d.qual && (He.dflB K fd.defaults (d.dvs K) && He.kwdB K fd.kwdefaults [])
  | _ => false)
theorem DefK.funD {K : PySem.W.Frag} {A : List Addr} {d : DefK} (e : fnKW K (A.getD d.i 0) = d.val) (c : d.ok K A = true) : ∃ fd, FunD K d.name d.qual d.params d.body d.scope (d.dvs K) [] (A.getD d.i 0) fd := by
  obtain ⟨kp, c2⟩ := He.ba c
  unfold fnKW at e
  cases q : K.lookup (A.getD d.i 0) with
  | none =>
    rw [q] at c2
    cases c2
  | some o =>
    obtain ⟨oc, od, dt, osl⟩ := o
    rw [q] at c2 e
    cases dt with
    | func fd =>
      obtain ⟨n1, n2, n3, n4, n5, n6, n7, n8, n9, n10, n11, n12, n13, n14, n15⟩ := fd
      have e2 : (some (n1, n2, n3, n4, n5, n6, n7, n15) : He.FnW) = some (d.name, d.qual, d.params, .stmts d.body, d.scope, mainGlobals, [], builtinsNs) := e
      simp only [Option.some.injEq, Prod.mk.injEq] at e2
      obtain ⟨h1, h2, h3, h4, h5, h6, h7, h8⟩ := e2
      subst h1 h2 h3 h4 h5 h6 h7 h8
      have c3 : (PySem.W.codeIn K n13 d.qual && (He.dflB K n8 (d.dvs K) && He.kwdB K n9 [])) = true := c2
      obtain ⟨k1, k2⟩ := He.ba c3
      obtain ⟨k3, k4⟩ := He.ba k2
      exact ⟨_, ⟨oc, od, n8, n9, n10, n11, n12, n13, n14, osl, rfl, q, k1, He.dflB_ok k3, He.kwdB_ok k4⟩, kp⟩
    | _ => cases c2
abbrev FsK : Type := PySem.W.Frag → List Addr → Bool
def obsK (fs : FsK) (fn : List DefK) (K : PySem.W.Frag) (A : List Addr) : FnWK := (fs K A && fn.all fun d => d.ok K A, fn.map fun d => fnKW K (A.getD d.i 0))
def valK (fn : List DefK) : FnWK := (true, fn.map DefK.val)
def SaysK (fs : FsK) (fn : List DefK) (K : PySem.W.Frag) (A : List Addr) : Prop := obsK fs fn K A = valK fn
variable {fs : FsK} {fn : List DefK} {K : PySem.W.Frag} {A : List Addr}
theorem SaysK.facts (c : SaysK fs fn K A) : fs K A = true := (He.ba (show (fs K A && fn.all fun d => d.ok K A) = true from congrArg (fun z : FnWK => z.1) c)).1
theorem SaysK.def_ (c : SaysK fs fn K A) (i : Nat) {d : DefK} (h : fn[i]? = some d := by rfl) : ∃ fd, FunD K d.name d.qual d.params d.body d.scope (d.dvs K) [] (A.getD d.i 0) fd := by
  have c2 := (He.ba (show (fs K A && fn.all fun d => d.ok K A) = true from congrArg (fun z : FnWK => z.1) c)).2
  have e : fn.map (fun d => fnKW K (A.getD d.i 0)) = fn.map DefK.val := congrArg (fun z : FnWK => z.2) c
  have e2 : (fn.map fun d => fnKW K (A.getD d.i 0))[i]? = (fn.map DefK.val)[i]? := by rw [e]
  rw [List.getElem?_map, List.getElem?_map, h] at e2
  exact DefK.funD (Option.some.inj e2) (List.all_eq_true.mp c2 d (List.mem_of_getElem? h))
/-! addresses of the program's objects -/
def gK (g : Addr → Option Obj) (x : Str) : Addr := match PySem.W.nsIn (He.frG g [mainGlobals]) mainGlobals x with
  | some (some (.ref a)) => a
  | _ => 0
def nsK (g : Addr → Option Obj) (a : Addr) : Addr := match g a with
  | some ⟨_, _, .cls cd, _⟩ => cd.ns
  | _ => 0
def mK (g : Addr → Option Obj) (c m : Str) : Addr := match PySem.W.nsIn (He.frG g [nsK g (gK g c)]) (nsK g (gK g c)) m with
  | some (some (.ref a)) => a
  | _ => 0
def cdK (g : Addr → Option Obj) (a : Addr) : Addr := match g a with
  | some ⟨_, _, .func fd, _⟩ => (match fd.code with
    | .ref b => b
    | _ => 0)
  | _ => 0
theorem funK_of {x qual : Str} {st : Stmt} {f : Addr} {fd : FuncData} {kws : List (Str × V)} (F : FunD K x qual (defArgs st) (defBody st) (defScope st) [] kws f fd) : L2.Fun K x qual st f fd := by
  obtain ⟨oc, od, dV, kV, doc, pm, an, cdv, ct, osl, e, l, c, hd, _⟩ := F.ex
  rcases hd with ⟨_, e2⟩ | ⟨e2, _⟩
  · subst e2
    exact ⟨⟨oc, od, kV, doc, pm, an, cdv, ct, osl, e, l, c⟩, F.kp⟩
  · exact absurd rfl e2
end
/-! ### a list comprehension in a def that is called in an except suite (my own rule; the kit's asks for calm) -/
/-! ### a suite that raises: exceptions whose context is known (my own rules) -/
end Kit
namespace Kit
open PySem PySem.Spec PyProof.Rows L2 LamX
/-! ### a lambda that is kept, and called later -/
/-- a cell that holds a value that is known -/
def CellO (c : Addr) (v : V) : HO := .ext fun h => ∃ u, RelV v u ∧ h.IsCell c (some u)
theorem cellO_ok {P : Program} {w : World} {H : Hp} {h : Heap} {c : Addr} {v : V} {u : Value} (r : RelV v u) (e : h.IsCell c (some u)) : ObjOk P w H h c (CellO c v) :=
  ⟨⟨u, r, e⟩, let ⟨o, ho, _⟩ := e; ⟨o, ho⟩, fun _ _ ⟨u, r, o, ho, hd⟩ k => ⟨u, r, o, k o ho, hd⟩⟩
abbrev Cap := Option (Str × Addr × V)
def capL : Cap → List (Str × Addr)
  | none => []
  | some (y, c, _) => [(y, c)]
def CapAt (H : Hp) : Cap → Prop
  | none => True
  | some (_, c, v) => H c = some (CellO c v)
def capA : Cap → List Addr
  | none => []
  | some (_, c, _) => [c]
def capN : Cap → List Str
  | none => []
  | some (y, _, _) => [y]
def capV : Cap → L2.St
  | none => []
  | some (_, _, v) => [some v]
/-- a lambda at f, its code object, what it has captured -/
def LamA (H : Hp) (f c' : Addr) (qual : Str) (params : Arguments) (body : Expr) (scope : Scope) (cap : Cap) : Prop :=
  (∃ pm ctv, H f = some (PinO f (PySem.W.kla_obj "<lambda>" qual params body scope (capL cap) pm c' ctv))) ∧ H c' = some (CodeO c' qual) ∧ CapAt H cap
theorem LamA.keep {H H' : Hp} {f c' : Addr} {qual : Str} {params : Arguments} {body : Expr} {scope : Scope} {cap : Cap} (h : LamA H f c' qual params body scope cap) (k : ∀ a ∈ f :: c' :: capA cap, ∀ o, H a = some o → H' a = some o) : LamA H' f c' qual params body scope cap := by
  obtain ⟨⟨pm, ctv, a⟩, b, c⟩ := h
  refine ⟨⟨pm, ctv, k f List.mem_cons_self _ a⟩, k c' (List.mem_cons_of_mem _ List.mem_cons_self) _ b, ?_⟩
  cases cap with
  | none => trivial
  | some x => exact k x.2.1 (by simp [capA]) _ c
/-- what the lambda's names are: its parameter, what it has captured -/
structure LamSc (scope : Scope) (a : Str) (cap : Cap) : Prop where
  kind : scope.kind = .function
  co : scope.isCoroutine = false
  gen : scope.isGenerator = false
  nocell : ∀ y ∈ scope.names, y.2 ≠ .cell
  par : scope.names.lookup a = some .local
  free : ∀ y, scope.names.lookup y = some .free → y ∈ capN cap
  nfree : ∀ y ∈ capN cap, scope.names.lookup y = some .free
/-- without the captured cell -/
def cutA (H : Hp) (l : List Addr) : Hp := fun b => if b ∈ l then none else H b
def putA (H H' : Hp) (l : List Addr) : Hp := fun b => if b ∈ l then H b else H' b
theorem capA_ext {H : Hp} {cap : Cap} (h : CapAt H cap) {b : Addr} (hb : b ∈ capA cap) : ∃ v, H b = some (CellO b v) := by
  cases cap with
  | none => cases hb
  | some x =>
    rw [show b = x.2.1 from List.mem_singleton.mp hb]
    exact ⟨_, h⟩
abbrev lamE (qual : Str) (scope : Scope) (L f c' : Addr) (cap : Cap) : Env := PySem.W.envX qual scope L f (.ref c') (capL cap)
def lamC (P : Program) (w : World) (K : PySem.W.Frag) (mg : Str → Option Value) (base : Heap) (A : Around) (outer : List Env) (s : Shared) (H : Hp) (E : XK) (qual : Str) (scope : Scope) (f c' : Addr) (a : Str) (cap : Cap) : Cx where
  prog := P
  w := w
  K := K
  mg := mg
  base := base
  A := A.deeper (lamE qual scope s.heap.objs.size f c' cap)
  N := a :: capN cap
  s_0 := s
  H_0 := cutA H (capA cap)
  env := lamE qual scope s.heap.objs.size f c' cap
  outer := outer
  stack := lamE qual scope s.heap.objs.size f c' cap :: outer
  ex := []
  fn := fun _ => false
  calm := true
  pn := []
  xe := fun e s' => wpAny (model P w) (A.deeper (lamE qual scope s.heap.objs.size f c' cap)) (leaving (lamE qual scope s.heap.objs.size f c' cap) e) (fun _ s'' => L2.CX P w outer H s E e s'') (fun e' s'' => L2.CX P w outer H s E e' s'') s'
theorem hok_cut {P : Program} {w : World} {H : Hp} {h : Heap} {cap : Cap} (hc : CapAt H cap) (k : HOk P w H h) : HOk P w (cutA H (capA cap)) h := fun b o e => by
  unfold cutA at e
  split at e
  · cases e
  · have ne : ∀ {d : Addr} {u : HO}, H d = some u → (∀ φ, u ≠ .ext φ) → cutA H (capA cap) d = some u := fun {d u} e2 z => by
      unfold cutA
      rw [if_neg fun m => by
        obtain ⟨v, y⟩ := capA_ext hc m
        rw [e2] at y
        exact z _ (Option.some.inj y)]
      exact e2
    exact (k b o e).stay (fun _ _ _ z => z) (fun d z => ne z (fun φ y => by cases y)) fun d xs z => ne z (fun φ y => by cases y)
theorem lam_in {P : Program} {w : World} {K : PySem.W.Frag} {mg : Str → Option Value} {base : Heap} {A : Around} {outer : List Env} {s : Shared} {H : Hp} {E : XK} {qual : Str} {params : Arguments} {body : Expr} {scope : Scope} {f c' : Addr} {a : Str} {cap : Cap} {v : V} {u : Value} {h₁ : Heap} {tk : Nat}
    (hc : CapAt H cap) (L : LamSc scope a cap) (e0 : Env0 P w K mg base A outer s H) (hd : A.handled = none) (r : RelV v u) (hns : h₁.Ns s.heap.objs.size fun y => ([(a, u)] : List (Str × Value)).reverse.lookup y) (kp : ∀ b o, s.heap.get? b = some o → h₁.get? b = some o) :
    Inv (lamC P w K mg base A outer s H E qual scope f c' a cap) [] (some v :: capV cap) (cutA H (capA cap)) { s with heap := h₁, toks := tk } := by
  have noA : ∀ b : Addr, b ∉ (lamC P w K mg base A outer s H E qual scope f c' a cap).ex := fun b z => absurd (show b ∈ ([] : List Addr) from z) (by simp)
  have cn : ∀ {b : Addr}, H b = none → cutA H (capA cap) b = none := fun {b} e => (by
    unfold cutA
    split
    · rfl
    · exact e)
  have look : ∀ {y : Str} {d : Addr}, (capL cap).lookup y = some d → d ∈ capA cap ∧ y ∈ capN cap := fun {y d} e => by
    cases cap with
    | none => cases e
    | some x =>
      have hm := PySem.mem_of_lookup e
      have hm := List.mem_singleton.mp hm
      rw [Prod.mk.injEq] at hm
      exact ⟨by rw [hm.2]; exact List.mem_singleton.mpr rfl, by rw [hm.1]; exact List.mem_singleton.mpr rfl⟩
  have cell : ∀ {d : Addr}, d ∈ capA cap → ∃ z u', H d = some (CellO d z) ∧ RelV z u' ∧ h₁.IsCell d (some u') := fun {d} m => by
    obtain ⟨z, e⟩ := capA_ext hc m
    obtain ⟨⟨u', r', o, ho, hd'⟩, _, _⟩ := e0.hok d _ e
    exact ⟨z, u', e, r', o, kp _ _ ho, hd'⟩
  refine ⟨⟨e0.mod, L.kind, rfl, rfl, Nat.le_refl _, fun y z c e1 e2 => ?_, fun y hy => ?_, fun y c z _ => ?_, fun _ => hd, Around.frames_deeper e0.frames, .inr ⟨rfl, rfl⟩, fun b z => absurd z (noA b), fun b o e => ⟨(e0.bs b o e).1, cn (e0.bs b o e).2⟩, e0.bsz, fun b _ _ => noA b,
      fun b z => absurd z (noA b), e0.funs, fun b hb => cn (e0.frf b hb)⟩,
    rfl, e0.bare, Un.kept kp, ⟨_, hns, fun i y z e1 e2 e3 => ?_⟩, fun y c e => ?_, cn (e0.hok.fresh (Nat.le_refl _)), fun y c e => ?_, fun q hq => absurd (show q ∈ ([] : List (Addr × Obj)) ++ [] from hq) (by simp), (hok_cut hc e0.hok).kept kp, ?_⟩
  · have h1 := (look (show (capL cap).lookup y = some c from e1)).2
    have h2 := (look (show (capL cap).lookup z = some c from e2)).2
    cases cap with
    | none => cases h1
    | some x => rw [List.mem_singleton.mp h1, List.mem_singleton.mp h2]
  · have hy : scope.names.lookup y = some .cell ∨ scope.names.lookup y = some .free := hy
    rcases hy with hy | hy
    · exact absurd rfl (L.nocell _ (PySem.mem_of_lookup hy))
    · have h1 := L.free y hy
      cases cap with
      | none => cases h1
      | some x =>
        rw [List.mem_singleton.mp h1]
        exact ⟨x.2.1, by show List.lookup x.1 [(x.1, x.2.1)] = _; simp⟩
  · have z : false = true := z
    cases z
  · have e1 : (a :: capN cap)[i]? = some y := e1
    have e2 : (some v :: capV cap)[i]? = some (some z) := e2
    match i, e1, e2 with
    | 0, e1, e2 =>
      cases e1
      cases e2
      exact ⟨u, r, .inl ⟨L.par, by show List.lookup a [(a, u)] = some u; simp⟩⟩
    | j + 1, e1, e2 =>
      cases cap with
      | none => cases e2
      | some x =>
        match j, e1, e2 with
        | 0, e1, e2 =>
          have e1 : x.1 = y := Option.some.inj e1
          have e2 : x.2.2 = z := Option.some.inj (Option.some.inj e2)
          subst e1 e2
          obtain ⟨z', u', h1, h2, h3⟩ := cell (d := x.2.1) (List.mem_singleton.mpr rfl)
          have h0 : H x.2.1 = some (CellO x.2.1 x.2.2) := hc
          obtain ⟨⟨u2, r2, o2, ho2, hd2⟩, _, _⟩ := e0.hok _ _ h0
          exact ⟨u2, r2, .inr ⟨.inr (L.nfree _ (List.mem_singleton.mpr rfl)), x.2.1, by show List.lookup x.1 [(x.1, x.2.1)] = _; simp, o2, kp _ _ ho2, hd2⟩⟩
        | n + 1, e1, e2 => cases e2
  · obtain ⟨z, u', h1, h2, h3⟩ := cell (look (show (capL cap).lookup y = some c from e)).1
    exact ⟨_, h3⟩
  · show cutA H (capA cap) c = none
    unfold cutA
    rw [if_pos (look (show (capL cap).lookup y = some c from e)).1]
  · cases cap <;> rfl
/-- a lambda called with one value -/
theorem run_lam {P : Program} {w : World} {K : PySem.W.Frag} {mg : Str → Option Value} {base : Heap} {A : Around} {outer : List Env} {s : Shared} {H : Hp} {Q : VK} {E : XK} {qual : Str} {params : Arguments} {body : Expr} {scope : Scope} {f c' : Addr} {a : Str} {cap : Cap} {v : V} {u : Value} {k : Nat} {tb : TE}
    (hA : LamA H f c' qual params body scope cap) (L : LamSc scope a cap) (hr : Room (k + 1) A) (e0 : Env0 P w K mg base A outer s H) (r : RelV v u)
    (hbind : ∀ (cl : List (Str × Addr)) (pm cv ctv : Value) (u : Value), bindArgs (PySem.W.kla_fn "<lambda>" qual params body scope cl pm cv ctv) ⟨[u], []⟩ = pure [(a, u)])
    (hbody : Room k (A.deeper (lamE qual scope s.heap.objs.size f c' cap)) → PE (lamC P w K mg base A outer s H E qual scope f c' a cap) body tb)
    (h : tb (some v :: capV cap) (cutA H (capA cap)) fun v' H' => Q v' (putA H H' (capA cap))) :
    codeAny (model P w) A (.call (.ref f) ⟨[u], []⟩) (CR (L2.CX P w) outer P w H s Q E) s := by
  obtain ⟨⟨pm, ctv, hf⟩, hco, hc⟩ := hA
  obtain ⟨hfg, _, _⟩ := e0.hok f _ hf
  obtain ⟨⟨oc, vs, t, hoc, hdc, hvc⟩, _, _⟩ := e0.hok c' _ hco
  have lim : s.heap.NoLimit := e0.mod.nolimit.keeps fun b o e => (e0.bs b o e).1
  refine PySem.W.kla_callFunE hr.depth hfg rfl L.co L.gen rfl ⟨c', oc, vs, t, rfl, hoc, hdc, hvc⟩ ?_
  rw [hbind]
  refine wpAny_pure (wpAny_newFunctionEnv L.nocell (fun y hy => by rw [List.mem_singleton.mp hy]; exact L.par) (fun h₁ hns hsb => ⟨lim.fresh _ hsb, ?_⟩) L.kind)
  show codeAny _ _ (.expr body (lamE qual scope s.heap.objs.size f c' cap)) _ _
  have kp : ∀ b o, s.heap.get? b = some o → h₁.get? b = some o := fun b o e => hsb.extBut b o (Nat.ne_of_lt (Heap.lt_size e)) (Heap.get?_push_of_some _ e)
  have J := lam_in (E := E) (f := f) (c' := c') (qual := qual) (params := params) (body := body) (tk := s.toks + ([(a, u)] : List (Str × Value)).length) hc L e0 hr.hd r hns kp
  refine PySem.W.kla_codeExpr (wpAny_mono ((hbody (hr.deeper _)).run [] _ _ _ _ J h) (fun v' s' hq => ?_) fun e s' hq => hq)
  obtain ⟨w', H', J', rv, q⟩ := hq
  have out : ∀ {b : Addr}, b ∈ capA cap → H' b = none := fun {b} m => by
    cases cap with
    | none => cases m
    | some x =>
      rw [List.mem_singleton.mp m]
      exact J'.freeC x.1 x.2.1 (by show List.lookup x.1 [(x.1, x.2.1)] = _; simp)
  have pn : ∀ {b : Addr} {o : HO}, H' b = some o → putA H H' (capA cap) b = some o := fun {b o} e => by
    unfold putA
    rw [if_neg fun m => by rw [out m] at e; cases e]
    exact e
  have cn : ∀ {b : Addr} {o : HO}, H b = some o → (∀ φ, o ≠ .ext φ) → cutA H (capA cap) b = some o := fun {b o} e z => by
    unfold cutA
    rw [if_neg fun m => by
      obtain ⟨v, y⟩ := capA_ext hc m
      rw [e] at y
      exact z _ (Option.some.inj y)]
    exact e
  have c0 : ∀ {b : Addr}, H b = none → cutA H (capA cap) b = none := fun {b} e => (by
    unfold cutA
    split
    · rfl
    · exact e)
  refine ⟨w', putA H H' (capA cap), J'.os, J'.bare, ⟨fun b o e n => J'.base.keep b o e (c0 n), fun b o e n => J'.base.slot b o e (c0 n), fun b o e n hx => ?_, J'.base.there, fun b xs e => pn (J'.base.tups b xs (cn e fun φ z => by cases z)), fun b o z e => pn (J'.base.frzs b o z (cn e fun φ z => by cases z)), fun b ps e => ?_⟩, fun b o e => ?_, rv, q⟩
  · have := J'.base.free b o e (c0 n) hx
    unfold putA
    split
    · exact n
    · exact this
  · obtain ⟨more, z⟩ := J'.base.tbls b ps (cn e fun φ z => by cases z)
    exact ⟨more, pn z⟩
  · by_cases m : b ∈ capA cap
    · unfold putA at e
      rw [if_pos m] at e
      cases cap with
      | none => cases m
      | some x =>
        have hb : b = x.2.1 := List.mem_singleton.mp m
        subst hb
        have hx : H x.2.1 = some (CellO x.2.1 x.2.2) := hc
        rw [hx] at e
        cases e
        obtain ⟨mm, hmm, hl⟩ := J'.loc
        obtain ⟨u', r', lk⟩ := hl 1 x.1 x.2.2 rfl rfl (.inr (.inr (L.nfree _ (List.mem_singleton.mpr rfl))))
        rcases lk with ⟨k1, _⟩ | ⟨_, c, hcl, hcell⟩
        · have k1 : scope.names.lookup x.1 = some .local := k1
          rw [L.nfree x.1 (List.mem_singleton.mpr rfl)] at k1
          cases k1
        · have hcl : List.lookup x.1 [(x.1, x.2.1)] = some c := hcl
          have : c = x.2.1 := by simpa using hcl.symm
          subst this
          exact cellO_ok r' hcell
    · unfold putA at e
      rw [if_neg m] at e
      exact (J'.hok b o e).stay (fun _ _ _ z => z) (fun d z => pn z) fun d xs z => pn z
section
variable {X : Cx} {pins : List (Addr × Obj)} {σ : L2.St} {H H0 : Hp} {s sI : Shared}
theorem track2 {a : Addr} {oe : Obj} (J : Inv X pins σ H0 sI) (J4 : Inv X pins σ H s) (hx : X.ex = []) (hn : sI.heap.get? a = none) (na : H a = none) (ha : s.heap.get? a = some oe) (hd : ∀ v, oe.data ≠ .cell v) (hd2 : ∀ es n, oe.data ≠ .dict es n) : Inv X pins σ (upd H a (PinO a oe)) s := by
  have ne : ∀ {b : Addr} {o : Obj}, sI.heap.get? b = some o → b ≠ a := fun e z => by
    rw [z, hn] at e
    cases e
  have nL : a ≠ X.env.locals := fun z => by
    obtain ⟨m, ⟨o, es, ep, e, hdd, _⟩, _⟩ := J4.loc
    rw [← z, ha] at e
    cases e
    exact hd2 _ _ hdd
  have n0 : ∀ {b : Addr} {o : Obj}, X.s_0.heap.get? b = some o → b ≠ a := fun {b o} e => by
    obtain ⟨o', e'⟩ := J.base.there b o e (by rw [hx]; exact fun z => nomatch z)
    exact ne e'
  have keep : ∀ {b : Addr} {u : HO}, H b = some u → upd H a (PinO a oe) b = some u := fun e => by
    rw [upd_ne (ne_of_none e na)]
    exact e
  refine ⟨J4.ok, J4.os, J4.bare, ⟨J4.base.keep, J4.base.slot, fun b o e n hq => ?_, J4.base.there, fun b xs e => keep (J4.base.tups b xs e), fun b o u e => keep (J4.base.frzs b o u e), fun b ps e => ?_⟩, J4.loc, J4.cell, ?_, fun x c e => ?_, fun p hp => ?_, J4.hok.laidN (fun _ _ e => e) na (pinO_ok ha), J4.len⟩
  · rw [upd_ne (n0 e)]
    exact J4.base.free b o e n hq
  · obtain ⟨m, q⟩ := J4.base.tbls b ps e
    exact ⟨m, keep q⟩
  · rw [upd_ne (Ne.symm nL)]
    exact J4.free
  · have hc : c ≠ a := fun z => by
      obtain ⟨v, o, ho, hv⟩ := J4.cell x c e
      rw [z, ha] at ho
      cases ho
      exact hd _ hv
    rw [upd_ne hc]
    exact J4.freeC x c e
  · obtain ⟨e, n, r⟩ := J4.pin p hp
    have hp' : p.1 ≠ a := ne (J.pin p hp).1
    exact ⟨e, by rw [upd_ne hp']; exact n, r⟩
/-- what is so of the state behind a lambda's making: at f a new function object, known from now on -/
def LamMade (P : Addr) (T : List (Addr × Str)) (q : Str) (params : Arguments) (body : Expr) (scope : Scope) (cl : List (Str × Addr)) (H : Hp) (Q : VK) : Prop :=
  ∀ (f c' : Addr) (pm ctv : Value) (H2 : Hp), Off [P] H H2 → Tabs T H2 → H f = none → H2 f = some (PinO f (PySem.W.kla_obj "<lambda>" q params body scope cl pm c' ctv)) → H2 c' = some (CodeO c' q) → (H P = some (.tbl #[]) → H c' = none) → Q (.ref f) H2
def tLamK (P : Addr) (T : List (Addr × Str)) (q : Str) (params : Arguments) (body : Expr) (scope : Scope) (cl : List (Str × Addr)) : TE := fun _ H Q => Tabs T H ∧ LamMade P T q params body scope cl H Q
theorem tabs_pin {T : List (Addr × Str)} {a : Addr} {oe : Obj} (h : Tabs T H) (na : H a = none) : Tabs T (upd H a (PinO a oe)) := h.ext fun b o e => by
  rw [upd_ne (ne_of_none e na)]
  exact e
theorem offN_pin {a P : Addr} {oe : Obj} (h : Off [P] H0 H) (na : H a = none) : Off [P] H0 (upd H a (PinO a oe)) := fun b o n e => by
  have := h b o n e
  rw [upd_ne (ne_of_none this na)]
  exact this
theorem pe_lamK {T : List (Addr × Str)} {c P : Addr} {params : Arguments} {body : Expr} {scope : Scope} {pos : Pos} (TB : TabB X.base X.mg c P) (hcode : X.env.code = .ref c) (hm : (P, X.env.qual ++ "<lambda>") ∈ T) (hu : ∀ p ∈ T, p.1 = P → p.2 = X.env.qual ++ "<lambda>") (hex : X.ex = [])
    (hdef : defaultsOf params X.env = ([], [])) (hfree : ∀ y ∈ scope.names, y.2 = .free → ∃ c, X.env.cells.lookup y.1 = some c) :
    PE X (.Lambda params body scope pos) (tLamK P T (X.env.qual ++ "<lambda>") params body scope (cloFrom X.env.cells scope.names [])) := by
  refine ⟨fun pins s σ H Q I h => ?_⟩
  obtain ⟨hT, h⟩ := h
  obtain ⟨ps, hP, ht, ha⟩ := hT _ hm
  have hPo : s.heap.get? P = some { cls := .none, data := .fields ps } := I.hok P _ hP
  have hbi : s.heap.BuiltinsAt X.mg P := TB.bm.keeps I.bk
  refine PySem.W.kla_eval hdef ?_
  cases hc : codeAmong pos ps.toList with
  | some cv =>
    obtain ⟨c', rfl, hco⟩ := ha pos cv hc
    refine PySem.W.kla_makeFunctionHit (mg := X.mg) (c := c) (P := P) (ps := ps) (closure_ok hfree) I.ok.glob (I.mod.glob.keeps I.bk) hcode (TB.code.keeps I.bk) hPo ht hc hbi fun ctv h' tk hx hsz => ?_
    have fr : s.heap.get? h'.objs.size = none := Heap.get?_none_of_le hsz
    have nf : H h'.objs.size = none := I.hok.fresh hsz
    have J := I.kept (h' := h'.push (PySem.W.kla_obj "<lambda>" (X.env.qual ++ "<lambda>") params body scope (cloFrom X.env.cells scope.names []) ((X.mg "__name__").getD .none) c' ctv)) (t' := tk) fun b o e => Heap.get?_push_of_some _ (hx b o e)
    have J2 := track2 I J hex fr nf (Heap.get?_push_size _ rfl) (fun v z => by cases z) (fun es n z => by cases z)
    exact ⟨V.ref _, _, J2, rfl, h _ c' _ ctv _ (offN_pin Off.refl nf) (tabs_pin hT nf) nf upd_same (by rw [upd_ne (ne_of_none hco nf)]; exact hco) (fun z => by
      rw [hP] at z
      cases z
      cases hc)⟩
  | none =>
    refine PySem.W.kla_makeFunction (mg := X.mg) (c := c) (P := P) (ps := ps) (closure_ok hfree) I.ok.glob (I.mod.glob.keeps I.bk) hcode (TB.code.keeps I.bk) hPo ht hc TB.gP hbi fun c' ctv h' tk hx hge hlt hrec htb => ?_
    obtain ⟨c2, oc, vs, t, e2, hoc, hd, hv⟩ := hrec
    cases e2
    have hsz : s.heap.objs.size ≤ h'.objs.size := Nat.le_trans hge (Nat.le_of_lt hlt)
    have nC : H c' = none := I.hok.fresh hge
    have nPc : P ≠ c' := ne_of_none hP nC
    have fr : s.heap.get? h'.objs.size = none := Heap.get?_none_of_le hsz
    have nf0 : H h'.objs.size = none := I.hok.fresh hsz
    have J := inv_table (t' := tk) (q := X.env.qual ++ "<lambda>") (more := #[rawInt pos.line, rawInt pos.col, .ref c']) (h' := h'.push (PySem.W.kla_obj "<lambda>" (X.env.qual ++ "<lambda>") params body scope (cloFrom X.env.cells scope.names []) ((X.mg "__name__").getD .none) c' ctv)) I hP
      (fun b o hb e => Heap.get?_push_of_some _ (hx b o hb e)) (Heap.get?_push_of_some _ htb) hge ⟨oc, vs, t, Heap.get?_push_of_some _ hoc, hd, hv⟩
    generalize hH1 : upd (upd H P (.tbl (ps ++ #[rawInt pos.line, rawInt pos.col, .ref c']))) c' (CodeO c' (X.env.qual ++ "<lambda>")) = H1 at J
    have atc : H1 c' = some (CodeO c' (X.env.qual ++ "<lambda>")) := by rw [← hH1]; exact upd_same
    have atP : H1 P = some (.tbl (ps ++ #[rawInt pos.line, rawInt pos.col, .ref c'])) := by rw [← hH1, upd_ne nPc]; exact upd_same
    have oth : ∀ b, b ≠ P → b ≠ c' → H1 b = H b := fun b h1 h2 => by rw [← hH1, upd_ne h2, upd_ne h1]
    have hE : ExtN H H1 := fun b o e n => by
      by_cases z : b = P
      · rw [z, hP] at e
        exact absurd (Option.some.inj e).symm (n ps)
      · rw [oth b z (ne_of_none e nC)]
        exact e
    have hOf : Off [P] H H1 := fun b o n e => by
      rw [oth b (fun z => n (by rw [z]; exact List.mem_singleton.mpr rfl)) (ne_of_none e nC)]
      exact e
    have nf : H1 h'.objs.size = none := by
      rw [oth _ (fun z => by rw [z, hP] at nf0; cases nf0) (Nat.ne_of_gt hlt)]
      exact nf0
    have hTb : Tabs T H1 := fun p hp => by
      by_cases hb : p.1 = P
      · rw [hu p hp hb, hb]
        have eL : (ps ++ #[rawInt pos.line, rawInt pos.col, .ref c']).toList = ps.toList ++ [rawInt pos.line, rawInt pos.col, .ref c'] := by simp
        refine ⟨_, atP, by rw [eL]; exact PySem.TriplesOk_snoc _ _ _ _ ht, fun p' cv hcv => ?_⟩
        rw [eL] at hcv
        rcases among_app _ ht hcv with z | z
        · obtain ⟨d, e1, e2⟩ := ha p' cv z
          exact ⟨d, e1, hE _ _ e2 codeO_ne⟩
        · exact ⟨c', z, atc⟩
      · obtain ⟨qs, a1, a2, a3⟩ := hT p hp
        refine ⟨qs, by rw [oth _ hb (ne_of_none a1 nC)]; exact a1, a2, fun p' cv hcv => ?_⟩
        obtain ⟨d, e1, e2⟩ := a3 p' cv hcv
        exact ⟨d, e1, hE _ _ e2 codeO_ne⟩
    have J2 := track2 I J hex fr nf (Heap.get?_push_size _ rfl) (fun v z => by cases z) (fun es n z => by cases z)
    exact ⟨V.ref _, _, J2, rfl, h _ c' _ ctv _ (offN_pin hOf nf) (tabs_pin hTb nf) nf0 upd_same (by rw [upd_ne (ne_of_none atc nf)]; exact atc) (fun _ => nC)⟩
end
/-! ### such a thing called by way of a field -/
/-- what a thing at f that is called with one value promises -/
def LamOk (P : Program) (w : World) (K : PySem.W.Frag) (mg : Str → Option Value) (base : Heap) (k : Nat) (f : Addr) (sp : Sp) : Prop :=
  ∀ (A : Around) (outer : List Env) (s : Shared) (H : Hp) (u : Value) (v : V) (Q : VK) (E : XK), Room k A → Env0 P w K mg base A outer s H → RelV v u → sp [v] H Q E → codeAny (model P w) A (.call (.ref f) ⟨[u], []⟩) (CR (L2.CX P w) outer P w H s Q E) s
abbrev fnO (fd : FuncData) : Obj := { cls := .type "function", data := .func fd }
def fcK (P : Program) (w : World) (K : PySem.W.Frag) (mg : Str → Option Value) (base : Heap) (k : Nat) (m : Str) (E : XK) (σ : L2.St) (t : TA) (Q : VK) : V → Hp → Prop := fun x H1 =>
  ∃ (a C dx : Addr) (fs : List (Str × V)) (f : Addr) (sp : Sp) (fd : FuncData), x = .ref a ∧ H1 a = some (.ins C dx fs) ∧ Cls K C ∧ NoAttr K C m ∧ fs.lookup m = some (.ref f) ∧ LamOk P w K mg base k f sp ∧ H1 f = some (PinO f (fnO fd)) ∧
    t σ H1 fun vs H2 => H2 f = some (PinO f (fnO fd)) ∧ (∃ v, vs = [v]) ∧ sp vs H2 Q E
def tFC (P : Program) (w : World) (K : PySem.W.Frag) (mg : Str → Option Value) (base : Heap) (k : Nat) (m : Str) (E : L2.St → XK) (te : TE) (t : TA) : TE := fun σ H Q => te σ H (fcK P w K mg base k m (E σ) σ t Q)
theorem vals_one {v : V} {us : List Value} (h : Vals [v] us) : ∃ u, us = [u] ∧ RelV v u := by
  cases us with
  | nil => cases h
  | cons u r =>
    cases h with
    | cons a b =>
      cases b
      exact ⟨u, rfl, a⟩
theorem pe_fcall {X : Cx} {o e : Expr} {m : Str} {te : TE} {t : TA} {k : Nat} {E : L2.St → XK} {apos pos : Pos} {pl : Sem Bool} (he : PE X o te) (hr : Room k X.A) (hx : ∀ σ, PassesAt (L2.CX X.prog X.w) X σ (E σ)) (ha : PA X [e] t)
    (hst : starEach [e] X.env = (false, eval e X.env) :: starEach [] X.env := by rfl) (hpl : (backTo pos (starEach [] X.env)).any (·.1) = false := by rfl)
    (hev : eval (.Call (.Attribute o m apos) [e] [] pos) X.env = (do let ov ← eval o X.env; standAt apos.atName; let (f, first) ← holding [ov] (getMethod ov m pl); callWith pos f first (backTo pos (starEach [e] X.env)) (backToKw pos (keywordEach [] X.env))) := by rfl) :
    PE X (.Call (.Attribute o m apos) [e] [] pos) (tFC X.prog X.w X.K X.mg X.base k m E te t) := by
  refine ⟨fun pins s σ H Q I h => ?_⟩
  refine PySem.W.methodCall_KW (pl := pl) (thn (he.run pins s σ H _ I h) fun u s1 ⟨x, H1, I1, rx, a, C, dx, fs, f, sp, fd, ex, ea, c, na, l, ok, hp, q⟩ => ?_) hev
  subst ex
  have eu : u = Value.ref a := rx
  subst eu
  obtain ⟨mA, O, _, _, _, _⟩ := ins_get I1.hok ea
  obtain ⟨od, J, _⟩ := O.look
  refine PySem.W.method_usual I1.kIn J (PySem.W.plainGet_of (c.get m)).1 (PySem.W.plainGet_of (c.get m)).2 na rfl (getattr_ok I1 ea c na l fun u2 s2 I2 r2 => ?_)
  have e2 : u2 = Value.ref f := r2
  subst e2
  refine PySem.W.callWith_F ⟨_, _, _, _, (I2.hok f _ hp).1⟩ (thn (ha.run pos pins s2 σ H1 _ I2 q) fun us s3 ⟨vs, H3, I3, r3, hp3, ⟨v, ev⟩, q3⟩ => ⟨⟨_, _, _, _, (I3.hok f _ hp3).1⟩, ?_⟩) hst hpl
  subst ev
  obtain ⟨u3, eu, rv⟩ := vals_one r3
  subst eu
  refine wpAny_call (codeAny_mono (ok X.A X.stack s3 H3 u3 v Q (E σ) hr I3.env0 rv q3) fun r s' hq => ?_)
  cases r with
  | error e => exact hx σ pins H3 s3 e s' I3 hq
  | ok fl =>
    cases fl with
    | ret u => exact I3.after hq
    | next => exact False.elim hq
    | brk => exact False.elim hq
    | cont => exact False.elim hq
/-! ### a def that hands out a lambda: its ends told with its names -/
/-! ### the head's facts with tables of code objects -/
def tbK (g : Addr → Option Obj) (a : Addr) : Addr := match g a with
  | some ⟨_, _, .fields vs, _⟩ => (match (vs[11]? : Option Value) with
    | some (.ref p) => p
    | _ => 0)
  | _ => 0
def emB (K : PySem.W.Frag) (p : Addr) : Bool := match K.lookup p with
  | some ⟨.none, none, .fields ⟨[]⟩, ⟨[]⟩⟩ => true
  | _ => false
theorem emB_ok {K : PySem.W.Frag} {p : Addr} {h : Heap} (X : K.In h) (e : emB K p = true) : h.get? p = some { cls := .none, data := .fields #[] } := by
  unfold emB at e
  split at e
  · rename_i q
    exact X _ _ q
  · cases e
def cdB (K : PySem.W.Frag) (f c : Addr) : Bool := match K.lookup f with
  | some ⟨_, _, .func fd, _⟩ => (match fd.code with
    | .ref b => decide (b = c)
    | _ => false)
  | _ => false
theorem cdB_ok {K : PySem.W.Frag} {f c : Addr} {oc : Value} {od : Option Addr} {fd : FuncData} {sl : Array (Option Value)} (e : cdB K f c = true) (l : K.lookup f = some ⟨oc, od, .func fd, sl⟩) : fd.code = .ref c := by
  unfold cdB at e
  rw [l] at e
  dsimp only at e
  split at e
  · rename_i b q
    rw [q, of_decide_eq_true e]
  · cases e
theorem fun_code {K : PySem.W.Frag} {x qual : Str} {st : Stmt} {f c : Addr} {fd : FuncData} (F : Fun K x qual st f fd) (e : cdB K f c = true) : fd.code = .ref c := by
  obtain ⟨oc, od, kV, doc, pm, an, cdv, ct, osl, h, lk, _⟩ := F.ex
  exact cdB_ok e lk
def tabB (K K2 : PySem.W.Frag) (p : Addr × Addr) : Bool := PySem.W.codeHdIn K p.1 p.2 && ((K.lookup p.2).isNone && emB K2 p.2)
/-- cs: the code objects with their tables, by place -/
def tabsB (cs : List (Nat × Nat)) (K K2 : PySem.W.Frag) (A A2 : List Addr) : Bool := cs.all fun n => tabB K K2 (A.getD n.1 0, A2.getD n.2 0)
def csOf (cs : List (Nat × Nat)) (A A2 : List Addr) : List (Addr × Addr) := cs.map fun n => (A.getD n.1 0, A2.getD n.2 0)
def obsKT (ls ls2 : (Addr → Option Obj) → List Addr) (fs : FsK) (fn : List DefK) (cs : List (Nat × Nat)) (g : Addr → Option Obj) : FnWK × Bool :=
  frList (ls g) fun A => frFr g A fun K => frList (ls2 g) fun A2 => frFr g A2 fun K2 => (obsK fs fn K A, tabsB cs K K2 A A2)
theorem obsKT_is {ls ls2 : (Addr → Option Obj) → List Addr} {fs : FsK} {fn : List DefK} {cs : List (Nat × Nat)} {g : Addr → Option Obj} : obsKT ls ls2 fs fn cs g = (obsK fs fn (He.frG g (ls g)) (ls g), tabsB cs (He.frG g (ls g)) (He.frG g (ls2 g)) (ls g) (ls2 g)) := by
  unfold obsKT
  rw [frList_eq, frFr_eq, frList_eq, frFr_eq]
def hookKT (ls ls2 : (Addr → Option Obj) → List Addr) (fs : FsK) (fn : List DefK) (cs : List (Nat × Nat)) : PySem.W.Hook where
  α := FnWK × Bool
  obs := fun s => obsKT ls ls2 fs fn cs s.heap.get?
  val := fun _ => (valK fn, true)
  says := fun _ h => ∃ (K K2 : PySem.W.Frag) (A A2 : List Addr), K.In h ∧ K2.In h ∧ SaysK fs fn K A ∧ tabsB cs K K2 A A2 = true
  of := fun _ _ e => ⟨_, _, _, _, He.frG_in, He.frG_in, congrArg Prod.fst (obsKT_is.symm.trans e), congrArg Prod.snd (obsKT_is.symm.trans e)⟩
  keeps := fun _ _ _ ⟨K, K2, A, A2, hK, hK2, c, d⟩ k => ⟨K, K2, A, A2, PySem.W.Frag.In.keeps hK k, PySem.W.Frag.In.keeps hK2 k, c, d⟩
theorem obsKT_eq {ls ls2 : (Addr → Option Obj) → List Addr} {fs : FsK} {fn : List DefK} {cs : List (Nat × Nat)} {g : Addr → Option Obj} {s : Shared} (h : ∀ a, g a = s.heap.get? a) : obsKT ls ls2 fs fn cs g = (hookKT ls ls2 fs fn cs).obs s := by
  have e : g = s.heap.get? := funext h
  rw [e] <;> rfl
theorem walk_ofWT {l : PySem.W.OpenLaw} {n k : Nat} {q : Program} {loose : List Str} {XP : (Str → Option Value) → Heap → Prop} {YP : World → Heap → Prop} {d : DefRec} {CX : World → CXT} {x : Str} (hn : l.most = some n) (hn2 : n ≤ sizeLine) (hdf : d.params.defaults = []) (hr : Room k callerA)
    (F : ∀ (w : World) (mg : Str → Option Value) (fa : Addr) (h : Heap), YP w h → h.Ns mainGlobals mg → mg d.name = some (.ref fa) →
      ∃ (K K2 : PySem.W.Frag) (fd : FuncData) (cs : List (Addr × Addr)) (sp : Sp), K.In h ∧ K2.In h ∧ (∀ p ∈ cs, tabB K K2 p = true) ∧ (∀ (s : Shared) (u : Value), BindsTo s fd ⟨[u], []⟩ [(x, u)]) ∧
        (∀ (H : Hp) (a : Addr) (ns : List Int), ns.length ≤ n → (∀ p ∈ cs, H p.2 = some (.tbl #[])) → SqL K H a (ns.map V.int) → sp [.ref a] H (fun v _ => v = .bl true) fun _ _ _ => False) ∧
        ∀ base : Heap, K.In base → base.Ns mainGlobals mg → (∀ p ∈ cs, TabB base mg p.1 p.2) → FnOk l.prog w K mg base (CX w) k fa fd [x] sp)
    (hCX : ∀ (w : World) (H : Hp) (s : Shared) (e : Value) (s' : Shared), CX w [] H s (fun _ _ _ => False) e s' → False) : PySem.W.WalkO q loose XP YP l.row.toRowW d [] (fun f vs => PySem.call f vs) := by
  refine Att.attach_call hn hdf fun w s₀ s₁ mg mb fa o pm cd doc a vs ns G Y ho hd hcd hmg hobj hints hlen hg => ?_
  obtain ⟨K, K2, fd, cs, sp, KX, KX2, hcs, hb, hsp, hF⟩ := F w mg fa _ Y G.T.g hmg
  have h1 : ∀ p ∈ cs, PySem.W.codeHdIn K p.1 p.2 = true ∧ K.lookup p.2 = none ∧ emB K2 p.2 = true := fun p hp => by
    have := hcs p hp
    unfold tabB at this
    obtain ⟨a, b⟩ := He.ba this
    obtain ⟨b, c⟩ := He.ba b
    exact ⟨a, Option.isNone_iff_eq_none.mp b, c⟩
  exact law_callTs KX G.T.g G.T.b G.T.builtins G.T.nolimit hg (fun p hp => emB_ok KX2 (h1 p hp).2.2) (fun p hp => (h1 p hp).2.1) (fun p hp => PySem.W.codeHd_of_K KX (h1 p hp).1) G.T.bmain hobj hints (Nat.le_trans hlen hn2) hr hF hb (fun H hH hS => hsp H a ns hlen hH hS) fun H e s' => hCX w H s₁ e s'
section
variable {P : Program} {w : World} {K : PySem.W.Frag} {mg : Str → Option Value} {base : Heap} {σ : L2.St} {H : Hp} {Q : VK} {te : TE} {ta : TA} {k : Nat} {m : Str} {a f : Addr} {v : V}
theorem x_fc {E : L2.St → XK} (h : te σ H (fcK P w K mg base k m (E σ) σ ta Q)) : tFC P w K mg base k m E te ta σ H Q := h
theorem x_fcK {E : XK} {C dx : Addr} {fs : List (Str × V)} {sp : Sp} {fd : FuncData} (ho : H a = some (.ins C dx fs)) (hl : fs.lookup m = some (.ref f)) (ok : LamOk P w K mg base k f sp) (hp : H f = some (PinO f (fnO fd))) (hc : Cls K C) (hn : NoAttr K C m)
    (h : ta σ H fun vs H2 => H2 f = some (PinO f (fnO fd)) ∧ (∃ v, vs = [v]) ∧ sp vs H2 Q E) : fcK P w K mg base k m E σ ta Q (.ref a) H := ⟨a, C, dx, fs, f, sp, fd, rfl, ho, hc, hn, hl, ok, hp, h⟩
end
end Kit
namespace My
open PySem L2 Kit LamX
def top (i : Nat) : Stmt := PySem.Challenge.pw_wornpages_k24_weighed.main.body.getD i (.Pass ⟨0, 0, 0, 0⟩)
abbrev s_Rule_goes_ahead : Stmt := inClass (top 1) 0
abbrev s_Rule_choose : Stmt := inClass (top 1) 1
abbrev N_Rule_choose : List Str := ["self", "tallies", "pages", "now", "best", "tally"]
theorem sc_Rule_choose : FnScope N_Rule_choose ["self", "tallies", "pages", "now"] (defScope s_Rule_choose) := ⟨rfl, rfl, rfl, by decide +kernel, rfl, by decide +kernel, by decide +kernel⟩
abbrev s_Weighed_init : Stmt := inClass (top 2) 0
abbrev N_Weighed_init : List Str := ["self", "weigh"]
theorem sc_Weighed_init : FnScope N_Weighed_init ["self", "weigh"] (defScope s_Weighed_init) := ⟨rfl, rfl, rfl, by decide +kernel, rfl, by decide +kernel, by decide +kernel⟩
abbrev s_Weighed_goes_ahead : Stmt := inClass (top 2) 1
abbrev N_Weighed_goes_ahead : List Str := ["self", "one", "other", "pages", "now"]
theorem sc_Weighed_goes_ahead : FnScope N_Weighed_goes_ahead ["self", "one", "other", "pages", "now"] (defScope s_Weighed_goes_ahead) := ⟨rfl, rfl, rfl, by decide +kernel, rfl, by decide +kernel, by decide +kernel⟩
abbrev s__law_cell_at : Stmt := top 4
abbrev N__law_cell_at : List Str := ["_law_script", "_law_k"]
theorem sc__law_cell_at : FnScope N__law_cell_at ["_law_script", "_law_k"] (defScope s__law_cell_at) := ⟨rfl, rfl, rfl, by decide +kernel, rfl, by decide +kernel, by decide +kernel⟩
abbrev s__law_whole : Stmt := top 5
abbrev N__law_whole : List Str := ["_law_found"]
theorem sc__law_whole : FnScope N__law_whole ["_law_found"] (defScope s__law_whole) := ⟨rfl, rfl, rfl, by decide +kernel, rfl, by decide +kernel, by decide +kernel⟩
abbrev s__law_now : Stmt := top 6
abbrev N__law_now : List Str := ["_law_cell"]
theorem sc__law_now : FnScope N__law_now ["_law_cell"] (defScope s__law_now) := ⟨rfl, rfl, rfl, by decide +kernel, rfl, by decide +kernel, by decide +kernel⟩
abbrev s__law_tallies : Stmt := top 7
abbrev N__law_tallies : List Str := ["_law_script", "_law_start", "_law_pages", "_law_now_here", "_law_found", "_law_block", "_law_cell", "_law_number", "_law_cleared"]
theorem sc__law_tallies : FnScope N__law_tallies ["_law_script", "_law_start", "_law_pages", "_law_now_here"] (defScope s__law_tallies) := ⟨rfl, rfl, rfl, by decide +kernel, rfl, by decide +kernel, by decide +kernel⟩
abbrev s__law_first : Stmt := top 8
abbrev N__law_first : List Str := ["_law_tallies_here", "_law_ranks", "_law_least", "_law_tally", "_law_rank"]
theorem sc__law_first : FnScope N__law_first ["_law_tallies_here", "_law_ranks"] (defScope s__law_first) := ⟨rfl, rfl, rfl, by decide +kernel, rfl, by decide +kernel, by decide +kernel⟩
abbrev s__law_factors : Stmt := top 9
abbrev N__law_factors : List Str := ["_law_script", "_law_start", "_law_wide", "_law_k"]
theorem sc__law_factors : FnScope N__law_factors ["_law_script", "_law_start"] (defScope s__law_factors) := ⟨rfl, rfl, rfl, by decide +kernel, rfl, by decide +kernel, by decide +kernel⟩
abbrev s__law_sum : Stmt := top 10
abbrev N__law_sum : List Str := ["_law_tally", "_law_factors_here", "_law_field", "_law_factor"]
theorem sc__law_sum : FnScope N__law_sum ["_law_tally", "_law_factors_here"] (defScope s__law_sum) := ⟨rfl, rfl, rfl, by decide +kernel, rfl, by decide +kernel, by decide +kernel⟩
abbrev s_law : Stmt := top 11
abbrev N_law : List Str := ["_law_script", "_law_pages", "_law_now_here", "_law_tallies_here", "_law_factors_here", "_law_heavy", "_law_k", "_law_some", "_law_ranks", "_law_tally", "_law_one", "_law_other", "_law_found", "_law_handed"]
theorem sc_law : FnScope N_law ["_law_script"] (defScope s_law) := ⟨rfl, rfl, rfl, by decide +kernel, rfl, by decide +kernel, by decide +kernel⟩
def fsK0 (K : PySem.W.Frag) (A : List Addr) : Bool := decide (PySem.W.nsIn K mainGlobals "_law_cell_at" = some (some (.ref (A.getD 10 0)))) && (decide (PySem.W.nsIn K mainGlobals "_law_whole" = some (some (.ref (A.getD 11 0)))) && (decide (PySem.W.nsIn K mainGlobals "_law_now" = some (some (.ref (A.getD 12 0)))) && (decide (PySem.W.nsIn K mainGlobals "_law_tallies" = some (some (.ref (A.getD 13 0)))) && (decide (PySem.W.nsIn K mainGlobals "_law_first" = some (some (.ref (A.getD 14 0)))) && (decide (PySem.W.nsIn K mainGlobals "_law_factors" = some (some (.ref (A.getD 15 0)))) && (decide (PySem.W.nsIn K mainGlobals "_law_sum" = some (some (.ref (A.getD 16 0)))) && (decide (PySem.W.nsIn K mainGlobals "law" = some (some (.ref (A.getD 17 0)))) && (cdB K (A.getD 17 0) (A.getD 29 0) && (decide (PySem.W.nsIn K mainGlobals "Rule" = some (some (.ref (A.getD 2 0)))) && (PySem.W.plainGet K (A.getD 2 0) Str.empty && (PySem.W.hasDictIn K (A.getD 2 0) && (PySem.W.plainOver K (A.getD 2 0) && (decide (PySem.W.findIn K (.ref (A.getD 2 0)) "__setattr__" = some (some (.builtin "object.__setattr__"))) && (PySem.W.makesIn K (A.getD 2 0) && (PySem.W.keepIn K (.ref (A.getD 2 0)) && (decide (PySem.W.findIn K (.ref (A.getD 2 0)) "__init__" = some (some (.builtin "object.__init__"))) && (decide (PySem.W.findIn K (.ref (A.getD 2 0)) "goes_ahead" = some (some (.ref (A.getD 6 0)))) && (PySem.W.isFn K (.ref (A.getD 6 0)) && (decide (PySem.W.findIn K (.ref (A.getD 2 0)) "choose" = some (some (.ref (A.getD 7 0)))) && (PySem.W.isFn K (.ref (A.getD 7 0)) && (decide (PySem.W.nsIn K mainGlobals "Weighed" = some (some (.ref (A.getD 3 0)))) && (PySem.W.plainGet K (A.getD 3 0) Str.empty && (PySem.W.hasDictIn K (A.getD 3 0) && (PySem.W.plainOver K (A.getD 3 0)))))))))))))))))))))))))
theorem fsK0_ok {K : PySem.W.Frag} {A : List Addr} (h : fsK0 K A = true) : (PySem.W.nsIn K mainGlobals "_law_cell_at" = some (some (.ref (A.getD 10 0)))) ∧ (PySem.W.nsIn K mainGlobals "_law_whole" = some (some (.ref (A.getD 11 0)))) ∧ (PySem.W.nsIn K mainGlobals "_law_now" = some (some (.ref (A.getD 12 0)))) ∧ (PySem.W.nsIn K mainGlobals "_law_tallies" = some (some (.ref (A.getD 13 0)))) ∧ (PySem.W.nsIn K mainGlobals "_law_first" = some (some (.ref (A.getD 14 0)))) ∧ (PySem.W.nsIn K mainGlobals "_law_factors" = some (some (.ref (A.getD 15 0)))) ∧ (PySem.W.nsIn K mainGlobals "_law_sum" = some (some (.ref (A.getD 16 0)))) ∧ (PySem.W.nsIn K mainGlobals "law" = some (some (.ref (A.getD 17 0)))) ∧ (cdB K (A.getD 17 0) (A.getD 29 0) = true) ∧ (PySem.W.nsIn K mainGlobals "Rule" = some (some (.ref (A.getD 2 0)))) ∧ (PySem.W.plainGet K (A.getD 2 0) Str.empty = true) ∧ (PySem.W.hasDictIn K (A.getD 2 0) = true) ∧ (PySem.W.plainOver K (A.getD 2 0) = true) ∧ (PySem.W.findIn K (.ref (A.getD 2 0)) "__setattr__" = some (some (.builtin "object.__setattr__"))) ∧ (PySem.W.makesIn K (A.getD 2 0) = true) ∧ (PySem.W.keepIn K (.ref (A.getD 2 0)) = true) ∧ (PySem.W.findIn K (.ref (A.getD 2 0)) "__init__" = some (some (.builtin "object.__init__"))) ∧ (PySem.W.findIn K (.ref (A.getD 2 0)) "goes_ahead" = some (some (.ref (A.getD 6 0)))) ∧ (PySem.W.isFn K (.ref (A.getD 6 0)) = true) ∧ (PySem.W.findIn K (.ref (A.getD 2 0)) "choose" = some (some (.ref (A.getD 7 0)))) ∧ (PySem.W.isFn K (.ref (A.getD 7 0)) = true) ∧ (PySem.W.nsIn K mainGlobals "Weighed" = some (some (.ref (A.getD 3 0)))) ∧ (PySem.W.plainGet K (A.getD 3 0) Str.empty = true) ∧ (PySem.W.hasDictIn K (A.getD 3 0) = true) ∧ (PySem.W.plainOver K (A.getD 3 0) = true) := by
  unfold fsK0 at h
  obtain ⟨h0, h⟩ := He.ba h
  obtain ⟨h1, h⟩ := He.ba h
  obtain ⟨h2, h⟩ := He.ba h
  obtain ⟨h3, h⟩ := He.ba h
  obtain ⟨h4, h⟩ := He.ba h
  obtain ⟨h5, h⟩ := He.ba h
  obtain ⟨h6, h⟩ := He.ba h
  obtain ⟨h7, h⟩ := He.ba h
  obtain ⟨h8, h⟩ := He.ba h
  obtain ⟨h9, h⟩ := He.ba h
  obtain ⟨h10, h⟩ := He.ba h
  obtain ⟨h11, h⟩ := He.ba h
  obtain ⟨h12, h⟩ := He.ba h
  obtain ⟨h13, h⟩ := He.ba h
  obtain ⟨h14, h⟩ := He.ba h
  obtain ⟨h15, h⟩ := He.ba h
  obtain ⟨h16, h⟩ := He.ba h
  obtain ⟨h17, h⟩ := He.ba h
  obtain ⟨h18, h⟩ := He.ba h
  obtain ⟨h19, h⟩ := He.ba h
  obtain ⟨h20, h⟩ := He.ba h
  obtain ⟨h21, h⟩ := He.ba h
  obtain ⟨h22, h⟩ := He.ba h
  obtain ⟨h23, h⟩ := He.ba h
  exact ⟨of_decide_eq_true h0, of_decide_eq_true h1, of_decide_eq_true h2, of_decide_eq_true h3, of_decide_eq_true h4, of_decide_eq_true h5, of_decide_eq_true h6, of_decide_eq_true h7, h8, of_decide_eq_true h9, h10, h11, h12, of_decide_eq_true h13, h14, h15, of_decide_eq_true h16, of_decide_eq_true h17, h18, of_decide_eq_true h19, h20, of_decide_eq_true h21, h22, h23, h⟩
def fsK1 (K : PySem.W.Frag) (A : List Addr) : Bool := decide (PySem.W.findIn K (.ref (A.getD 3 0)) "__setattr__" = some (some (.builtin "object.__setattr__"))) && (decide (PySem.W.findIn K (.ref (A.getD 3 0)) "weigh" = some none) && (decide (PySem.W.findIn K (.ref (A.getD 3 0)) "goes_ahead" = some (some (.ref (A.getD 9 0)))) && (PySem.W.isFn K (.ref (A.getD 9 0)) && (decide (PySem.W.findIn K (.ref (A.getD 3 0)) "choose" = some (some (.ref (A.getD 7 0)))) && (decide (PySem.W.findIn K (.ref (A.getD 3 0)) "__init__" = some (some (.ref (A.getD 8 0)))) && (PySem.W.isFn K (.ref (A.getD 8 0)) && (PySem.W.makesIn K (A.getD 3 0) && (PySem.W.keepIn K (.ref (A.getD 3 0)) && (decide (PySem.W.nsIn K mainGlobals "len" = some none) && (decide (PySem.W.nsIn K mainGlobals "isinstance" = some none) && (decide (PySem.W.nsIn K mainGlobals "min" = some none) && (decide (PySem.W.nsIn K mainGlobals "sum" = some none) && (decide (PySem.W.nsIn K mainGlobals "int" = some none) && (decide (PySem.W.nsIn K mainGlobals "list" = some none) && (decide (PySem.W.nsIn K mainGlobals "tuple" = some none) && (decide (PySem.W.nsIn K mainGlobals "bool" = some none) && (decide (PySem.W.nsIn K mainGlobals "range" = some none) && (decide (PySem.W.nsIn K mainGlobals "zip" = some none)))))))))))))))))))
theorem fsK1_ok {K : PySem.W.Frag} {A : List Addr} (h : fsK1 K A = true) : (PySem.W.findIn K (.ref (A.getD 3 0)) "__setattr__" = some (some (.builtin "object.__setattr__"))) ∧ (PySem.W.findIn K (.ref (A.getD 3 0)) "weigh" = some none) ∧ (PySem.W.findIn K (.ref (A.getD 3 0)) "goes_ahead" = some (some (.ref (A.getD 9 0)))) ∧ (PySem.W.isFn K (.ref (A.getD 9 0)) = true) ∧ (PySem.W.findIn K (.ref (A.getD 3 0)) "choose" = some (some (.ref (A.getD 7 0)))) ∧ (PySem.W.findIn K (.ref (A.getD 3 0)) "__init__" = some (some (.ref (A.getD 8 0)))) ∧ (PySem.W.isFn K (.ref (A.getD 8 0)) = true) ∧ (PySem.W.makesIn K (A.getD 3 0) = true) ∧ (PySem.W.keepIn K (.ref (A.getD 3 0)) = true) ∧ (PySem.W.nsIn K mainGlobals "len" = some none) ∧ (PySem.W.nsIn K mainGlobals "isinstance" = some none) ∧ (PySem.W.nsIn K mainGlobals "min" = some none) ∧ (PySem.W.nsIn K mainGlobals "sum" = some none) ∧ (PySem.W.nsIn K mainGlobals "int" = some none) ∧ (PySem.W.nsIn K mainGlobals "list" = some none) ∧ (PySem.W.nsIn K mainGlobals "tuple" = some none) ∧ (PySem.W.nsIn K mainGlobals "bool" = some none) ∧ (PySem.W.nsIn K mainGlobals "range" = some none) ∧ (PySem.W.nsIn K mainGlobals "zip" = some none) := by
  unfold fsK1 at h
  obtain ⟨h0, h⟩ := He.ba h
  obtain ⟨h1, h⟩ := He.ba h
  obtain ⟨h2, h⟩ := He.ba h
  obtain ⟨h3, h⟩ := He.ba h
  obtain ⟨h4, h⟩ := He.ba h
  obtain ⟨h5, h⟩ := He.ba h
  obtain ⟨h6, h⟩ := He.ba h
  obtain ⟨h7, h⟩ := He.ba h
  obtain ⟨h8, h⟩ := He.ba h
  obtain ⟨h9, h⟩ := He.ba h
  obtain ⟨h10, h⟩ := He.ba h
  obtain ⟨h11, h⟩ := He.ba h
  obtain ⟨h12, h⟩ := He.ba h
  obtain ⟨h13, h⟩ := He.ba h
  obtain ⟨h14, h⟩ := He.ba h
  obtain ⟨h15, h⟩ := He.ba h
  obtain ⟨h16, h⟩ := He.ba h
  obtain ⟨h17, h⟩ := He.ba h
  exact ⟨of_decide_eq_true h0, of_decide_eq_true h1, of_decide_eq_true h2, h3, of_decide_eq_true h4, of_decide_eq_true h5, h6, h7, h8, of_decide_eq_true h9, of_decide_eq_true h10, of_decide_eq_true h11, of_decide_eq_true h12, of_decide_eq_true h13, of_decide_eq_true h14, of_decide_eq_true h15, of_decide_eq_true h16, of_decide_eq_true h17, of_decide_eq_true h⟩
def fsK (K : PySem.W.Frag) (A : List Addr) : Bool := fsK0 K A && (fsK1 K A)
def fnK0 : List DefK := [⟨6, "goes_ahead", "Rule.goes_ahead", defArgs s_Rule_goes_ahead, defBody s_Rule_goes_ahead, defScope s_Rule_goes_ahead, []⟩,
  ⟨7, "choose", "Rule.choose", defArgs s_Rule_choose, defBody s_Rule_choose, defScope s_Rule_choose, []⟩,
  ⟨8, "__init__", "Weighed.__init__", defArgs s_Weighed_init, defBody s_Weighed_init, defScope s_Weighed_init, []⟩,
  ⟨9, "goes_ahead", "Weighed.goes_ahead", defArgs s_Weighed_goes_ahead, defBody s_Weighed_goes_ahead, defScope s_Weighed_goes_ahead, []⟩,
  ⟨10, "_law_cell_at", "_law_cell_at", defArgs s__law_cell_at, defBody s__law_cell_at, defScope s__law_cell_at, []⟩,
  ⟨11, "_law_whole", "_law_whole", defArgs s__law_whole, defBody s__law_whole, defScope s__law_whole, []⟩,
  ⟨12, "_law_now", "_law_now", defArgs s__law_now, defBody s__law_now, defScope s__law_now, []⟩,
  ⟨13, "_law_tallies", "_law_tallies", defArgs s__law_tallies, defBody s__law_tallies, defScope s__law_tallies, []⟩,
  ⟨14, "_law_first", "_law_first", defArgs s__law_first, defBody s__law_first, defScope s__law_first, []⟩,
  ⟨15, "_law_factors", "_law_factors", defArgs s__law_factors, defBody s__law_factors, defScope s__law_factors, []⟩,
  ⟨16, "_law_sum", "_law_sum", defArgs s__law_sum, defBody s__law_sum, defScope s__law_sum, []⟩,
  ⟨17, "law", "law", defArgs s_law, defBody s_law, defScope s_law, []⟩]
def fnK : List DefK := fnK0
def nmK0 : List PySem.Str := ["Rule", "Weighed", "_law_cell_at", "_law_whole", "_law_now", "_law_tallies", "_law_first", "_law_factors", "_law_sum"]
def nmK : List PySem.Str := nmK0
abbrev RK : PySem.W.OpenRow := PySem.W.OpenLaw.row PySem.Challenge.rw_wornpages_k24_weighed
abbrev qK : Program := PySem.W.view RK.prog [11]
def lsK0 (g : Addr → Option Obj) : List Addr := [mainGlobals, cStatics, gK g "Rule", gK g "Weighed", nsK g (gK g "Rule"), nsK g (gK g "Weighed"), mK g "Rule" "goes_ahead", mK g "Rule" "choose", mK g "Weighed" "__init__", mK g "Weighed" "goes_ahead", gK g "_law_cell_at", gK g "_law_whole", gK g "_law_now", gK g "_law_tallies", gK g "_law_first", gK g "_law_factors", gK g "_law_sum", gK g "law", cdK g (mK g "Rule" "goes_ahead"), cdK g (mK g "Rule" "choose")]
def lsK1 (g : Addr → Option Obj) : List Addr := [cdK g (mK g "Weighed" "__init__"), cdK g (mK g "Weighed" "goes_ahead"), cdK g (gK g "_law_cell_at"), cdK g (gK g "_law_whole"), cdK g (gK g "_law_now"), cdK g (gK g "_law_tallies"), cdK g (gK g "_law_first"), cdK g (gK g "_law_factors"), cdK g (gK g "_law_sum"), cdK g (gK g "law")]
def lsK (g : Addr → Option Obj) : List Addr := lsK0 g ++ (lsK1 g)
def csK : List (Nat × Nat) := [(29, 0)]
def ls2K (g : Addr → Option Obj) : List Addr := [tbK g (cdK g (gK g "law"))]
abbrev hkK : PySem.W.Hook := hookKT lsK ls2K fsK fnK csK
def obK (s : PySem.W.SharedT) : FnWK × Bool := obsKT lsK ls2K fsK fnK csK (HandSHeadRun.getT s)
theorem obK_eq (s : PySem.W.SharedT) : obK s = hkK.obs s.abs := obsKT_eq (HandSHeadRun.getT_eq s)
theorem runK (w : World) : HandSHeadRun.RunEq RK qK hkK obK 20000 nmK w := by
  intro os
  kernel_rfl
def spLawE (K : PySem.W.Frag) (cs : List (Addr × Addr)) : Sp := fun vs H Q _ => ∃ (a : Addr) (ns : List Int), vs = [.ref a] ∧ SqL K H a (ns.map V.int) ∧ ns.length ≤ 63 ∧ (∀ p ∈ cs, H p.2 = some (.tbl #[])) ∧ ∀ H', Q (.bl true) H'
def FinT : Prop := ∀ {w : World} {K : PySem.W.Frag} {h : Heap} {mg : Str → Option Value} {fa : Addr} {A : List Addr} {A2 : List Addr} (X : K.In h) (G : h.Ns mainGlobals mg) (hfa : mg "law" = some (.ref fa)) (c : SaysK fsK fnK K A),
    ∃ fd : FuncData, (∀ (s : Shared) (v : Value), BindsTo s fd ⟨[v], []⟩ [("_law_script", v)]) ∧ ∀ base : Heap, K.In base → base.Ns mainGlobals mg → (∀ p ∈ csOf csK A A2, TabB base mg p.1 p.2) → FnOk (PySem.Challenge.rw_wornpages_k24_weighed).prog w K mg base (L2.CX (PySem.Challenge.rw_wornpages_k24_weighed).prog w) 20 fa fd ["_law_script"] (spLawE K (csOf csK A A2))
end My
section
open PySem PySem.W PySem.Calls PyProof.Rows
theorem My.finE (hFin : My.FinT) : PySem.Challenge.rw_wornpages_k24_weighed.Holds := by
  w_on; o_law
  refine HandSHeadRun.head_any (r := My.RK) (q := My.qK) (H := My.hkK) (ob := My.obK) (M := 20000) (loose := My.nmK) (d := HandSHeadRun.topDef My.RK.prog 11) (kwd := []) My.obK_eq
    (by kernel_rfl) (fun s => by kernel_rfl) My.runK (by kernel_rfl) (by kernel_rfl) (by kernel_rfl) (by rfl) (by first | assumption | decide +kernel) (by decide +kernel) ⟨rfl, rfl, rfl, rfl, rfl, by decide +kernel⟩ ?hw ?hc
  case hw => w_witness2
  case hc =>
    refine Kit.walk_ofWT (l := PySem.Challenge.rw_wornpages_k24_weighed) (n := 63) (k := 20) (x := "_law_script") (CX := fun w => L2.CX (PySem.Challenge.rw_wornpages_k24_weighed).prog w) rfl (by decide) (by kernel_rfl) ⟨rfl, by decide, by decide⟩ ?F ?X
    case X =>
      intro w H s e s' z
      obtain ⟨_, _, _, _, _, _, _, _, _, _, _, _, z⟩ := z
      exact z.elim
    intro w mg fa h Y G hmg0
    obtain ⟨K, K2, A, A2, KX, KX2, c, ct⟩ := Y
    have hmg : mg ("law" : PySem.Str) = some (.ref fa) := by
      have e : (HandSHeadRun.topDef My.RK.prog 11).name = ("law" : PySem.Str) := by kernel_rfl
      rw [← e]
      exact hmg0
    obtain ⟨fd, hb, hF⟩ := hFin (w := w) (A2 := A2) KX G hmg c
    refine ⟨K, K2, fd, Kit.csOf My.csK A A2, My.spLawE K (Kit.csOf My.csK A A2), KX, KX2, fun p hp => ?_, hb, fun H a ns hl hT hS => ⟨a, ns, rfl, hS, hl, hT, fun _ => rfl⟩, hF⟩
    obtain ⟨n, hn, rfl⟩ := List.mem_map.mp hp
    exact List.all_eq_true.mp ct n hn
end
namespace My
open PySem L2 Kit LamX
/-! steps of a reading: "s" one step, "go" as far as it goes -/
local macro_rules | `(tactic| walk_at "sq") => `(tactic| first | assumption | exact SqL.of (by assumption) | exact SqT.of (by assumption) | (refine' Same.seq ?hsm ?hsq; (case hsm => assumption); (case hsq => walk_at "sq")) | (refine' SqL.of ?hhq; (case hhq => walk_at "hp")) | (refine SqT.of ?_; walk_at "hp"))
local macro_rules | `(tactic| walk_at "hp") => `(tactic| first | assumption | (refine' (show Same _ _ by assumption) _ _ ?hhp; (case hhp => walk_at "hp")))
local macro_rules | `(tactic| walk_at "nin") => `(tactic| first | exact nin_of (by assumption) | exact nin_of (Ne.symm (by assumption)))
local macro_rules | `(tactic| walk_at "off") => `(tactic| first | exact Off.refl | exact Off.of (by assumption) | exact Off.sub (by assumption) (by intro b hb; rw [List.mem_singleton] at hb; subst hb; simp) | (refine Off.trans ?_ (Off.of (by assumption)); walk_at "off") | (refine Off.trans ?_ (Off.sub (by assumption) (by intro b hb; rw [List.mem_singleton] at hb; subst hb; simp)); walk_at "off") | (refine Off.trans ?_ (by assumption); walk_at "off"))
local macro_rules | `(tactic| walk_at "hp") => `(tactic| first | assumption | (refine' Off.at ?hO1 ?hO3 ?hO2; (case hO1 => assumption); (case hO2 => walk_at "nin"); (case hO3 => walk_at "hp")) | (refine' Off.lst ?hO1 ?hO2 ?hO3; (case hO1 => assumption); (case hO2 => assumption); (case hO3 => walk_at "hp")) | (refine' (show Same _ _ by assumption) _ _ ?hhp; (case hhp => walk_at "hp")))
local macro_rules | `(tactic| walk_at "nn") => `(tactic| (refine' ne_of_none ?nna ?nnb; (case nnb => assumption); (case nna => walk_at "hp")))
local macro_rules | `(tactic| walk_at "side") => `(tactic| first | assumption | decide | omega | exact ⟨by decide, by decide, by decide⟩ | exact ⟨by decide, by decide +kernel⟩ | exact Or.inr ⟨by decide, by decide⟩ | exact ⟨by omega, by omega⟩ | exact Or.inl ⟨by omega, by omega⟩ | exact Or.inr ⟨by omega, by omega⟩ | exact cdivW (by omega) (by omega) | (simp only [List.length_cons, List.length_nil, List.length_append, Nat.zero_add, Nat.reduceAdd, Nat.reduceMul]; decide) | (simp only [List.length_append, List.length_cons, List.length_nil, List.length_map]; omega) | (simp; done))
local macro_rules | `(tactic| walk_at "isi") => `(tactic| first
  | with_reducible refine x_isiNon_int ?_
  | with_reducible refine x_isiNon_bool ?_
  | with_reducible refine x_isiNon_str ?_
  | with_reducible refine x_isiNon_list ?_
  | with_reducible refine x_isiNon_tuple ?_
  | with_reducible refine x_isiNon_dict ?_
  | with_reducible refine x_isiBl_int ?_
  | with_reducible refine x_isiBl_bool ?_
  | with_reducible refine x_isiBl_str ?_
  | with_reducible refine x_isiBl_list ?_
  | with_reducible refine x_isiBl_tuple ?_
  | with_reducible refine x_isiBl_dict ?_
  | with_reducible refine x_isiInt_int ?_
  | with_reducible refine x_isiInt_bool ?_
  | with_reducible refine x_isiInt_str ?_
  | with_reducible refine x_isiInt_list ?_
  | with_reducible refine x_isiInt_tuple ?_
  | with_reducible refine x_isiInt_dict ?_
  | with_reducible refine x_isiStr_int ?_
  | with_reducible refine x_isiStr_bool ?_
  | with_reducible refine x_isiStr_str ?_
  | with_reducible refine x_isiStr_list ?_
  | with_reducible refine x_isiStr_tuple ?_
  | with_reducible refine x_isiStr_dict ?_
  | with_reducible refine x_isiLst_int (by assumption) ?_
  | with_reducible refine x_isiLst_bool (by assumption) ?_
  | with_reducible refine x_isiLst_str (by assumption) ?_
  | with_reducible refine x_isiLst_list (by assumption) ?_
  | with_reducible refine x_isiLst_tuple (by assumption) ?_
  | with_reducible refine x_isiLst_dict (by assumption) ?_
  | with_reducible refine x_isiTup_int (by assumption) ?_
  | with_reducible refine x_isiTup_bool (by assumption) ?_
  | with_reducible refine x_isiTup_str (by assumption) ?_
  | with_reducible refine x_isiTup_list (by assumption) ?_
  | with_reducible refine x_isiTup_tuple (by assumption) ?_
  | with_reducible refine x_isiTup_dict (by assumption) ?_
  | with_reducible refine x_isiDk_int (by assumption) ?_
  | with_reducible refine x_isiDk_bool (by assumption) ?_
  | with_reducible refine x_isiDk_str (by assumption) ?_
  | with_reducible refine x_isiDk_list (by assumption) ?_
  | with_reducible refine x_isiDk_tuple (by assumption) ?_
  | with_reducible refine x_isiDk_dict (by assumption) ?_)
local macro_rules | `(tactic| walk_at "s") => `(tactic| first
  | walk_at "u"
  | with_reducible refine x_seqA ?_
  | with_reducible refine x_seqD ?_
  | with_reducible refine x_seqF ?_
  | with_reducible refine x_seqFA ?_
  | with_reducible refine x_seqAug ?_
  | with_reducible refine x_asg ?_
  | ((with_reducible refine' x_var ?hv ?_); case hv => exact rfl)
  | with_reducible refine x_c ?_
  | with_reducible refine x_op ?_
  | with_reducible refine x_cb ?_
  | with_reducible refine x_cons ?_
  | with_reducible refine x_nil ?_
  | ((with_reducible refine x_gname ?_); (try dsimp only [List.set]))
  | with_reducible refine x_if ?_
  | with_reducible refine x_ret ?_
  | with_reducible refine x_test ?_
  | ((with_reducible refine x_isbl ?_); try dsimp only)
  | ((with_reducible refine x_truBl ?_); try dsimp only)
  | with_reducible refine x_callS ?_
  | with_reducible refine x_iteT ?_
  | with_reducible refine x_iteF ?_
  | with_reducible refine x_iteN ?_
  | with_reducible refine x_I0 ?_
  | with_reducible refine x_addI ?_
  | with_reducible refine x_lt ?_
  | ((with_reducible refine x_pow ?_ ?hs); (try (case hs => walk_at "side")); (try simp only [Int.reduceToNat]))
  | ((with_reducible refine x_I ?_ ?hs); (try (case hs => walk_at "side")))
  | ((with_reducible refine x_mulI ?_ ?hs); (case hs => walk_at "side"))
  | ((with_reducible refine x_mulU ?_ ?hs); (try (case hs => walk_at "side")))
  | with_reducible refine x_eqI ?_
  | with_reducible refine x_neI ?_
  | with_reducible refine x_eqB ?_
  | with_reducible refine x_neB ?_
  | with_reducible refine x_eqS ?_
  | with_reducible refine x_andT ?_
  | with_reducible refine x_orT ?_
  | with_reducible refine x_notT ?_
  | with_reducible refine x_and ?_
  | with_reducible refine x_or ?_
  | with_reducible refine x_not ?_
  | with_reducible refine x_chain ?_
  | with_reducible refine x_tB ?_
  | with_reducible refine x_tup ?_
  | with_reducible refine x_lst ?_
  | with_reducible refine x_un ?_
  | ((with_reducible refine x_nwL ?_ ?hs); (try (case hs => walk_at "side")); intro p H1 hp hs hn)
  | ((with_reducible refine x_nwT ?_ ?hs); (try (case hs => walk_at "side")); intro p H1 hp hs hn)
  | ((with_reducible refine' x_addL ?h1 ?h2 ?_ ?hs); (case h1 => walk_at "hp"); (case h2 => walk_at "hp"); (try (case hs => walk_at "side")); intro p H1 hp hs hn)
  | ((with_reducible refine' x_rep1 ?h1 ?_ ?h0); (case h1 => walk_at "hp"); (try (case h0 => walk_at "side")); intro p H1 hp hs hn)
  | ((with_reducible refine' x_rep ?h1 ?_ ?h2 ?h0 ?hs); (case h1 => walk_at "hp"); (try (case h2 => walk_at "side")); (try (case h0 => walk_at "side")); (try (case hs => walk_at "side")); intro p H1 hp hs hn)
  | ((with_reducible refine' x_addS ?_ ?hs); (try (case hs => walk_at "side")))
  | with_reducible refine x_U ?_
  | with_reducible refine x_drop ?_
  | with_reducible refine x_retN ?_
  | ((with_reducible refine x_next ?_); try dsimp only)
  | with_reducible refine x_ifExp ?_
  | ((with_reducible refine' x_lenM ?hq ?_); case hq => walk_at "sq")
  | ((with_reducible refine' x_lenL ?hq ?_); case hq => walk_at "sq")
  | ((with_reducible refine' x_lenD ?hq ?_); case hq => walk_at "hp")
  | ((with_reducible refine' x_lenT ?hq ?_); case hq => walk_at "sq")
  | ((with_reducible refine' x_ixH ?hq ?_); (case hq => walk_at "sq"))
  | ((with_reducible refine' x_ixS ?hq ?ha ?_); (case hq => walk_at "sq"); (case ha => first | assumption | exact rfl))
  | ((with_reducible refine' x_ixI ?hq ?_ ?h0 ?h1); (case hq => walk_at "sq"); (try (case h0 => walk_at "side")); (try (case h1 => walk_at "side")))
  | ((with_reducible refine' x_ixB ?hq ?_ ?h0 ?h1); (case hq => walk_at "sq"); (try (case h0 => walk_at "side")); (try (case h1 => walk_at "side")))
  | ((with_reducible refine' x_ixL ?hq ?_ ?h0 ?h1); (case hq => walk_at "sq"); (try (case h0 => walk_at "side")); (try (case h1 => walk_at "side")))
  | ((with_reducible refine' x_ixT ?hq ?ha ?_); (case hq => walk_at "sq"); case ha => exact rfl)
  | walk_at "isi"
  | with_reducible refine x_bm ?_
  | ((with_reducible refine' x_bmL ?hq ?_); (case hq => walk_at "sq"))
  | with_reducible refine x_bm0 ?_
  | ((with_reducible refine' x_bm0L ?hq ?_); (case hq => walk_at "sq"))
  | ((with_reducible refine' x_append ?ho ?_ ?hl); (case ho => walk_at "hp"); (try (case hl => walk_at "side")))
  | ((with_reducible refine' x_clear ?ho ?_); (case ho => walk_at "hp"))
  | with_reducible refine x_slice ?_
  | with_reducible refine x_noPart ?_
  | with_reducible refine x_part ?_
  | with_reducible refine x_ptK ?_
  | ((with_reducible refine' x_slL ?hq ?_); (case hq => walk_at "sq"); intro p H1 hp hs hn)
  | with_reducible refine x_forL ?_
  | with_reducible refine x_forT ?_
  | with_reducible refine x_forS ?_
  | with_reducible refine x_forR1 ?_
  | with_reducible refine x_forR2 ?_
  | with_reducible refine x_forEn ?_
  | with_reducible refine x_forZ ?_
  | with_reducible refine x_lcL ?_
  | with_reducible refine x_lcR1 ?_
  | with_reducible refine x_lcR2 ?_
  | with_reducible refine x_yes ?_
  | ((with_reducible refine x_mk0 ?_); intro p dp H1 hp hdp hne hs hn hd)
  | with_reducible refine x_mkS ?_
  | ((with_reducible refine x_mkK ?_); intro p dp H1 hp hdp hne hs hn hd)
  | with_reducible refine x_methD ?_
  | with_reducible refine x_fldAug ?_
  | with_reducible refine x_dget ?_
  | ((with_reducible refine' x_dgS ?ho ?hv ?_); (case ho => walk_at "hp"); (case hv => exact rfl); (try dsimp only))
  | with_reducible refine x_dput ?_
  | with_reducible refine x_seqDP ?_
  | with_reducible refine x_prN ?_
  | with_reducible refine x_prC ?_
  | ((with_reducible refine x_disp ?_); intro p H1 hp hs hn)
  | ((with_reducible refine x_dnew ?_); intro p H1 hp hs hn)
  | with_reducible refine x_din ?_
  | with_reducible refine x_dnin ?_
  | ((with_reducible refine' x_dninI ?ho ?_); (case ho => walk_at "hp"))
  | with_reducible refine x_dget1 ?_
  | with_reducible refine x_dsetd ?_
  | with_reducible refine x_dpop1 ?_
  | with_reducible refine x_dpop2 ?_
  | ((with_reducible refine' x_dinI ?ho ?_); (case ho => walk_at "hp"))
  | ((with_reducible refine' x_dg1K ?ho ?_); (case ho => walk_at "hp"))
  | ((with_reducible refine' x_dg1I ?ho ?_); (case ho => walk_at "hp"))
  | ((with_reducible refine' x_dsK ?ho ?_); (case ho => walk_at "hp"))
  | ((with_reducible refine' x_dpp1K ?ho ?_); (case ho => walk_at "hp"))
  | ((with_reducible refine' x_dpp2K ?ho ?_); (case ho => walk_at "hp"))
  | with_reducible refine x_augS ?_
  | with_reducible refine x_seqAS ?_
  | with_reducible refine x_rSub ?_
  | ((with_reducible refine' x_getI ?hq ?_ ?h0 ?h1); (case hq => walk_at "sq"); (try (case h0 => walk_at "side")); (try (case h1 => walk_at "side")))
  | ((with_reducible refine' x_getL ?hq ?_ ?h0 ?h1); (case hq => walk_at "sq"); (try (case h0 => walk_at "side")); (try (case h1 => walk_at "side")))
  | with_reducible refine x_gsub ?_
  | ((with_reducible refine' x_setL ?ho ?_ ?h0 ?h1); (case ho => walk_at "hp"); (try (case h0 => walk_at "side")); (try (case h1 => walk_at "side")); intro H1 hO hI; (try dsimp only))
  | ((with_reducible refine' x_sfN ?ho ?hf ?_ ?hc ?hn ?hl); (case ho => walk_at "hp"); (case hf => exact rfl); (case hc => walk_at "cls"); (case hn => walk_at "na"); (case hl => exact Nat.le_of_ble_eq_true rfl); intro H1 hO hI; (dsimp only [List.cons_append, List.nil_append] at hI); (try dsimp only))
  | ((with_reducible refine' x_fldK ?ho ?hf ?_ ?hc ?hn); (case ho => walk_at "hp"); (case hf => exact rfl); (case hc => walk_at "cls"); (case hn => walk_at "na"))
  | ((with_reducible refine' x_aug ?hv ?_); case hv => exact rfl)
  | ((with_reducible refine x_ipI ?_); (try dsimp only [List.set]))
  | with_reducible refine x_rAdd ?_
  | with_reducible refine x_isB ?_
  | with_reducible refine x_isNotB ?_
  | with_reducible refine x_isN ?_
  | with_reducible refine x_isNotN ?_
  | ((with_reducible refine' x_inI ?hq ?_); (case hq => walk_at "sq"))
  | ((with_reducible refine' x_notInI ?hq ?_); (case hq => walk_at "sq"))
  | ((with_reducible refine x_intB ?_); try dsimp only)
  | with_reducible refine x_intI ?_
  | with_reducible refine x_raise ?_
  | with_reducible refine x_seqR ?_
  | with_reducible refine x_mkE ?_
  | with_reducible refine x_try1 ?_
  | with_reducible refine x_seqT1 ?_
  | with_reducible refine x_tryA ?_
  | with_reducible refine x_seqTA ?_
  | with_reducible refine x_tryK ?_
  | with_reducible refine x_seqTK ?_
  | with_reducible refine x_tryM ?_
  | with_reducible refine x_seqTM ?_
  | with_reducible refine x_mix ?_
  | with_reducible refine x_seqMix ?_
  | with_reducible refine x_xf ?_
  | with_reducible refine x_mkO ?_
  | with_reducible refine x_vei ?_
  | with_reducible refine x_fld ?_
  | with_reducible refine x_sfld ?_
  | ((with_reducible refine' x_gtup2 ?hq ?_); (case hq => walk_at "sq"); (try dsimp only [List.set]))
  | ((with_reducible refine' x_glst4 ?hq ?_); (case hq => walk_at "sq"); (try dsimp only [List.set]))
  | with_reducible refine x_max2 ?_
  | with_reducible refine x_min2 ?_
  | ((with_reducible refine' x_list ?hq ?_); (case hq => walk_at "sq"); intro p H1 hp hs hn)
  | with_reducible refine x_listRev ?_
  | ((with_reducible refine' x_lrK ?hq ?_); (case hq => walk_at "sq"); intro p H1 hp hs hn)
  | ((with_reducible refine' x_tupL ?hq ?_); (case hq => walk_at "sq"); intro p H1 hp hs hn)
  | ((with_reducible refine' x_listD ?hq ?_); (case hq => walk_at "hp"); intro p H1 hp hs hn)
  | ((with_reducible refine x_shl ?_ ?hs); (try (case hs => walk_at "side")))
  | ((with_reducible refine x_str ?_ ?hs); (try (case hs => walk_at "side"))))
local macro_rules | `(tactic| walk_at "go") => `(tactic| repeat walk_at "s")
local macro_rules | `(tactic| walk_at "begin") => `(tactic| simp only [L2H.cxH, cxOf, L2.start, List.map, List.length_cons, List.length_nil, List.replicate, Nat.reduceAdd, Nat.reduceSub, List.cons_append, List.nil_append])
local macro_rules | `(tactic| walk_at "if") => `(tactic| ((with_reducible refine x_seq ?_); repeat walk_at "s"))
local macro_rules | `(tactic| walk_at "exv") => `(tactic| first | assumption | ((refine' ExV.mono ?exa ?exb); (case exa => assumption); (case exb => assumption)) | ((refine' ExV.off1 ?exo ?exx ?exn); (case exo => assumption); (case exx => assumption); (case exn => assumption)))
local macro_rules | `(tactic| walk_at "u") => `(tactic| first | ((with_reducible refine' x_isVC ?exv ?exe ?exk ?_); (case exv => walk_at "exv"); (case exe => assumption); (case exk => assumption)) | ((with_reducible refine' x_isVT ?exv ?exe ?exk ?_); (case exv => walk_at "exv"); (case exe => assumption); (case exk => assumption)))
--#LAWSPEC 20
structure Txt (K : PySem.W.Frag) (mg : Str → Option Value) where
  a_Rule_goes_ahead : Addr
  fd_Rule_goes_ahead : FuncData
  F_Rule_goes_ahead : Fun K "goes_ahead" "Rule.goes_ahead" s_Rule_goes_ahead a_Rule_goes_ahead fd_Rule_goes_ahead
  bd_Rule_goes_ahead : Binds K fd_Rule_goes_ahead ["self", "one", "other", "pages", "now"] []
  k_Rule_goes_ahead : PySem.W.keepIn K (.ref a_Rule_goes_ahead) = true
  a_Rule_choose : Addr
  fd_Rule_choose : FuncData
  F_Rule_choose : Fun K "choose" "Rule.choose" s_Rule_choose a_Rule_choose fd_Rule_choose
  bd_Rule_choose : Binds K fd_Rule_choose ["self", "tallies", "pages", "now"] []
  k_Rule_choose : PySem.W.keepIn K (.ref a_Rule_choose) = true
  a_Weighed_init : Addr
  fd_Weighed_init : FuncData
  F_Weighed_init : Fun K "__init__" "Weighed.__init__" s_Weighed_init a_Weighed_init fd_Weighed_init
  bd_Weighed_init : Binds K fd_Weighed_init ["self", "weigh"] []
  k_Weighed_init : PySem.W.keepIn K (.ref a_Weighed_init) = true
  a_Weighed_goes_ahead : Addr
  fd_Weighed_goes_ahead : FuncData
  F_Weighed_goes_ahead : Fun K "goes_ahead" "Weighed.goes_ahead" s_Weighed_goes_ahead a_Weighed_goes_ahead fd_Weighed_goes_ahead
  bd_Weighed_goes_ahead : Binds K fd_Weighed_goes_ahead ["self", "one", "other", "pages", "now"] []
  k_Weighed_goes_ahead : PySem.W.keepIn K (.ref a_Weighed_goes_ahead) = true
  a__law_cell_at : Addr
  fd__law_cell_at : FuncData
  F__law_cell_at : Fun K "_law_cell_at" "_law_cell_at" s__law_cell_at a__law_cell_at fd__law_cell_at
  bd__law_cell_at : Binds K fd__law_cell_at ["_law_script", "_law_k"] []
  k__law_cell_at : PySem.W.keepIn K (.ref a__law_cell_at) = true
  g__law_cell_at : mg "_law_cell_at" = some (.ref a__law_cell_at)
  a__law_whole : Addr
  fd__law_whole : FuncData
  F__law_whole : Fun K "_law_whole" "_law_whole" s__law_whole a__law_whole fd__law_whole
  bd__law_whole : Binds K fd__law_whole ["_law_found"] []
  k__law_whole : PySem.W.keepIn K (.ref a__law_whole) = true
  g__law_whole : mg "_law_whole" = some (.ref a__law_whole)
  a__law_now : Addr
  fd__law_now : FuncData
  F__law_now : Fun K "_law_now" "_law_now" s__law_now a__law_now fd__law_now
  bd__law_now : Binds K fd__law_now ["_law_cell"] []
  k__law_now : PySem.W.keepIn K (.ref a__law_now) = true
  g__law_now : mg "_law_now" = some (.ref a__law_now)
  a__law_tallies : Addr
  fd__law_tallies : FuncData
  F__law_tallies : Fun K "_law_tallies" "_law_tallies" s__law_tallies a__law_tallies fd__law_tallies
  bd__law_tallies : Binds K fd__law_tallies ["_law_script", "_law_start", "_law_pages", "_law_now_here"] []
  k__law_tallies : PySem.W.keepIn K (.ref a__law_tallies) = true
  g__law_tallies : mg "_law_tallies" = some (.ref a__law_tallies)
  a__law_first : Addr
  fd__law_first : FuncData
  F__law_first : Fun K "_law_first" "_law_first" s__law_first a__law_first fd__law_first
  bd__law_first : Binds K fd__law_first ["_law_tallies_here", "_law_ranks"] []
  k__law_first : PySem.W.keepIn K (.ref a__law_first) = true
  g__law_first : mg "_law_first" = some (.ref a__law_first)
  a__law_factors : Addr
  fd__law_factors : FuncData
  F__law_factors : Fun K "_law_factors" "_law_factors" s__law_factors a__law_factors fd__law_factors
  bd__law_factors : Binds K fd__law_factors ["_law_script", "_law_start"] []
  k__law_factors : PySem.W.keepIn K (.ref a__law_factors) = true
  g__law_factors : mg "_law_factors" = some (.ref a__law_factors)
  a__law_sum : Addr
  fd__law_sum : FuncData
  F__law_sum : Fun K "_law_sum" "_law_sum" s__law_sum a__law_sum fd__law_sum
  bd__law_sum : Binds K fd__law_sum ["_law_tally", "_law_factors_here"] []
  k__law_sum : PySem.W.keepIn K (.ref a__law_sum) = true
  g__law_sum : mg "_law_sum" = some (.ref a__law_sum)
  a_law : Addr
  fd_law : FuncData
  F_law : Fun K "law" "law" s_law a_law fd_law
  bd_law : Binds K fd_law ["_law_script"] []
  k_law : PySem.W.keepIn K (.ref a_law) = true
  lc_law : Addr
  lt_law : Addr
  lcd_law : fd_law.code = .ref lc_law
  C_Rule : Addr
  g_Rule : mg "Rule" = some (.ref C_Rule)
  cl_Rule : Cls K C_Rule
  mk0_Rule : Mk0 K C_Rule
  m_Rule_goes_ahead : Meth K C_Rule "goes_ahead" a_Rule_goes_ahead
  m_Rule_choose : Meth K C_Rule "choose" a_Rule_choose
  C_Weighed : Addr
  g_Weighed : mg "Weighed" = some (.ref C_Weighed)
  cl_Weighed : Cls K C_Weighed
  na_Weighed_weigh : NoAttr K C_Weighed "weigh"
  m_Weighed_goes_ahead : Meth K C_Weighed "goes_ahead" a_Weighed_goes_ahead
  m_Weighed_choose : Meth K C_Weighed "choose" a_Rule_choose
  mk_Weighed : Mk K C_Weighed a_Weighed_init
  b_len : mg "len" = none
  b_isinstance : mg "isinstance" = none
  b_min : mg "min" = none
  b_sum : mg "sum" = none
  b_int : mg "int" = none
  b_list : mg "list" = none
  b_tuple : mg "tuple" = none
  b_bool : mg "bool" = none
  b_range : mg "range" = none
  b_zip : mg "zip" = none
local macro_rules | `(tactic| walk_at "cls") => `(tactic| first | assumption | exact (show Txt _ _ by assumption).cl_Rule | exact (show Txt _ _ by assumption).cl_Weighed)
local macro_rules | `(tactic| walk_at "na") => `(tactic| first | assumption | exact (show Txt _ _ by assumption).na_Weighed_weigh)
section
variable {P : Program} {w : World} {K : PySem.W.Frag} {mg : Str → Option Value} {base : Heap}
abbrev FO (P : Program) (w : World) (K : PySem.W.Frag) (mg : Str → Option Value) (base : Heap) := FnOk P w K mg base (L2.CX P w)
/-! ### the law's reader -/
def cl (ns : List Int) (k : Int) : Int := ns.getD k.toNat 0
def spCell (K : PySem.W.Frag) : Sp := fun vs H Q _ => ∃ (a : Addr) (ns : List Int) (k : Int), vs = [.ref a, .int k] ∧ SqL K H a (ns.map V.int) ∧ 0 ≤ k ∧ Q (.int (cl ns k)) H
theorem ok_cell_at (T : Txt K mg) : FO P w K mg base 1 T.a__law_cell_at T.fd__law_cell_at ["_law_script", "_law_k"] (spCell K) := by
  have sc := sc__law_cell_at
  refine T.F__law_cell_at.okX sc (fun vs H Q E h => ?_) (fun cdv A outer s H vs Q E hr h => ?_)
  · obtain ⟨a, ns, k, rfl, _⟩ := h
    rfl
  · obtain ⟨a, ns, k, rfl, hS, h0, q⟩ := h
    refine ⟨_, (pss_cons (ps_if (pt_cmpR op_uLt (pv 1) (pe_callB (cr_ulen) (by rfl) T.b_len bt_len (pa_cons (pv 0) pa_nil)) (nomark _)) (pss_one (ps_ret (pe_ix ix_seq (pv 0) (pv 1) (fun _ _ => rfl)))) pss_nil)
      (pss_one (ps_ret pe_int))), ?_⟩
    walk_at "begin"
    walk_at "if"
    refine x_iteD (fun h => ?_) (fun h => ?_)
    · walk_at "go"
      exact q
    · walk_at "go"
      have e : cl ns k = 0 := by
        unfold cl
        rw [List.getD_eq_getElem?_getD, List.getElem?_eq_none (by omega)]
        rfl
      rw [e] at q
      exact q
theorem x_cell {H : Hp} {Q : VK} {E : XK} {a : Addr} {ns : List Int} {k : Int} (h : SqL K H a (ns.map V.int)) (q : Q (.int (cl ns k)) H) (h0 : 0 ≤ k) : spCell K [.ref a, .int k] H Q E := ⟨a, ns, k, rfl, h, h0, q⟩
local macro_rules | `(tactic| walk_at "u") => `(tactic| ((with_reducible refine' x_cell ?hq ?_ ?h0); (case hq => walk_at "sq"); (try (case h0 => walk_at "side"))))
/-- a value that is no whole number, of a kind that is met here -/
def NotI (K : PySem.W.Frag) (H : Hp) (v : V) : Prop := v = .non ∨ (∃ b, v = .bl b) ∨ (∃ s, v = .str s) ∨ ∃ p, v = .ref p ∧ (TyX K H v (.type "list") ∨ TyX K H v (.type "tuple"))
def spLWhole (K : PySem.W.Frag) : Sp := fun vs H Q _ => ∃ v, vs = [v] ∧ ((∃ n, v = .int n ∧ Q (.bl true) H) ∨ (NotI K H v ∧ Q (.bl false) H))
theorem x_lwhole {H : Hp} {Q : VK} {E : XK} {n : Int} (q : Q (.bl true) H) : spLWhole K [.int n] H Q E := ⟨_, rfl, .inl ⟨n, rfl, q⟩⟩
theorem x_lwholeN {H : Hp} {Q : VK} {E : XK} {v : V} (h : NotI K H v) (q : Q (.bl false) H) : spLWhole K [v] H Q E := ⟨_, rfl, .inr ⟨h, q⟩⟩
local macro_rules | `(tactic| walk_at "u") => `(tactic| first | (with_reducible refine x_lwhole ?_) | (with_reducible refine x_lwholeN (by assumption) ?_))
theorem ok_whole (T : Txt K mg) : FO P w K mg base 1 T.a__law_whole T.fd__law_whole ["_law_found"] (spLWhole K) := by
  have sc := sc__law_whole
  refine T.F__law_whole.okX sc (fun vs H Q E h => ?_) (fun cdv A outer s H vs Q E hr h => ?_)
  · obtain ⟨v, rfl, _⟩ := h
    rfl
  · obtain ⟨v, rfl, h⟩ := h
    refine ⟨_, (pss_one (ps_ret (pe_andT (pe_callB (cr_uisinstance) (by rfl) T.b_isinstance bt_isinstance (pa_cons (pv 0) (pa_cons (pe_bltn (v := .ty "int") (by rfl) T.b_int bt_int rfl) pa_nil))) (pe_one (pe_notT (pe_callB (cr_uisinstance) (by rfl) T.b_isinstance bt_isinstance (pa_cons (pv 0) (pa_cons (pe_bltn (v := .ty "bool") (by rfl) T.b_bool bt_bool rfl) pa_nil)))))))), ?_⟩
    walk_at "begin"
    walk_at "go"
    rcases h with ⟨n, rfl, q⟩ | ⟨h, q⟩
    · walk_at "go"
      exact q
    · rcases h with rfl | ⟨b, rfl⟩ | ⟨z, rfl⟩ | ⟨p, rfl, h⟩
      · walk_at "go"
        exact q
      · walk_at "go"
        exact q
      · walk_at "go"
        exact q
      · rcases h with h | h
        · refine x_isiR h (b := false) (by decide +kernel) ?_
          walk_at "go"
          exact q
        · refine x_isiR h (b := false) (by decide +kernel) ?_
          walk_at "go"
          exact q
/-! ### tallies -/
structure Tal where
  b : Int
  l : Int
  c : Int
  o : Int
def Tal.vs (t : Tal) : List V := [.int t.b, .int t.l, .int t.c, .int t.o]
def TalAt (H : Hp) (v : V) (t : Tal) : Prop := ∃ a, v = .ref a ∧ H a = some (.tup t.vs)
def TAll (H : Hp) (vs : List V) (ts : List Tal) : Prop := vs.length = ts.length ∧ ∀ (i : Nat) v t, vs[i]? = some v → ts[i]? = some t → TalAt H v t
/-- a list of tallies -/
def TL (H : Hp) (p : Addr) (ts : List Tal) : Prop := ∃ vs, H p = some (.lst vs) ∧ TAll H vs ts
theorem TalAt.mono {H H' : Hp} {v : V} {t : Tal} (s : TupS H H') (h : TalAt H v t) : TalAt H' v t := by
  obtain ⟨a, e, h⟩ := h
  exact ⟨a, e, s _ _ h⟩
theorem TAll.mono {H H' : Hp} {vs : List V} {ts : List Tal} (s : TupS H H') (h : TAll H vs ts) : TAll H' vs ts := ⟨h.1, fun i v t h1 h2 => (h.2 i v t h1 h2).mono s⟩
theorem TL.mono {H H' : Hp} {p : Addr} {ts : List Tal} (s : Same H H') (h : TL H p ts) : TL H' p ts := by
  obtain ⟨vs, e, h⟩ := h
  exact ⟨vs, s _ _ e, h.mono (TupS.of s)⟩
theorem TAll.nil {H : Hp} : TAll H [] [] := ⟨rfl, fun i v t h _ => by simp at h⟩
theorem TAll.snoc {H : Hp} {vs : List V} {ts : List Tal} {v : V} {t : Tal} (h : TAll H vs ts) (hv : TalAt H v t) : TAll H (vs ++ [v]) (ts ++ [t]) := by
  refine ⟨by simp [h.1], fun i x y h1 h2 => ?_⟩
  by_cases hi : i < vs.length
  · rw [List.getElem?_append_left hi] at h1
    rw [List.getElem?_append_left (h.1 ▸ hi)] at h2
    exact h.2 i x y h1 h2
  · have e : i = vs.length := by
      have := (List.getElem?_eq_some_iff.mp h1).1
      simp at this
      omega
    subst e
    rw [List.getElem?_append_right (Nat.le_refl _)] at h1
    rw [h.1, List.getElem?_append_right (Nat.le_refl _)] at h2
    simp at h1 h2
    subst h1 h2
    exact hv
theorem TAll.get {H : Hp} {vs : List V} {ts : List Tal} (h : TAll H vs ts) {i : Nat} {v : V} (hi : vs[i]? = some v) : ∃ t, ts[i]? = some t ∧ TalAt H v t := by
  have hl := (List.getElem?_eq_some_iff.mp hi).1
  have hl2 : i < ts.length := h.1 ▸ hl
  exact ⟨ts[i], List.getElem?_eq_getElem hl2, h.2 i v _ hi (List.getElem?_eq_getElem hl2)⟩
/-- what the law's tallies are like -/
def Good (pages now : Int) (ts : List Tal) : Prop := (∀ t ∈ ts, 0 ≤ t.b ∧ t.b < 16 ∧ 0 ≤ t.l ∧ t.l ≤ pages ∧ 0 ≤ t.c ∧ t.c < 10 ^ 30 ∧ 0 ≤ t.o ∧ t.o < now) ∧ ts.Pairwise (fun s t => s.b < t.b)
/-! ### tallies as data -/
def Tal.data (t : Tal) : PyData := .tuple [.int t.b, .int t.l, .int t.c, .int t.o]
theorem TalAt.dp {H : Hp} {v : V} {t : Tal} (h : TalAt H v t) : Dp K H v t.data := by
  obtain ⟨a, rfl, h⟩ := h
  exact .tup (SqT.of h) (.cons (.int _) (.cons (.int _) (.cons (.int _) (.cons (.int _) .nil))))
def tdata (ts : List Tal) : PyData := .list (ts.map Tal.data)
theorem tdata_sh (ts : List Tal) : Sh 9 (tdata ts) := by
  refine Sh.list (k := 8) fun d h => ?_
  obtain ⟨t, _, rfl⟩ := List.mem_map.mp h
  refine Sh.tup (k := 7) fun d h => ?_
  simp only [List.mem_cons, List.not_mem_nil, or_false] at h
  rcases h with rfl | rfl | rfl | rfl <;> exact Sh.int
theorem TAll.dp {H : Hp} {vs : List V} {ts : List Tal} (h : TAll H vs ts) : DpAll K H vs (ts.map Tal.data) := by
  refine dpAll_of (by rw [List.length_map]; exact h.1) fun i v d h1 h2 => ?_
  rw [List.getElem?_map] at h2
  cases e : ts[i]? with
  | none => rw [e] at h2; simp at h2
  | some t =>
    rw [e] at h2
    simp at h2
    subst h2
    exact (h.2 i v t h1 e).dp
theorem TL.dp {H : Hp} {p : Addr} {ts : List Tal} (h : TL H p ts) : Dp K H (.ref p) (tdata ts) := by
  obtain ⟨vs, e, h⟩ := h
  exact .lst (SqL.of e) h.dp
theorem TL.ne {H : Hp} {p q : Addr} {ts : List Tal} {Q : VK} (h1 : TL H p ts) (h2 : TL H q ts) (k : Q (.bl false) H) : uNe K (.ref p) (.ref q) H Q := x_neS2 h1.dp h2.dp (tdata_sh ts) k
theorem TL.eqNil {H : Hp} {p q : Addr} {ts : List Tal} {Q : VK} (h1 : TL H p ts) (h2 : H q = some (.lst [])) (k : Q (.bl ts.isEmpty) H) : uEq K (.ref p) (.ref q) H Q := by
  refine x_eqD h1.dp (.lst (SqL.of h2) .nil) (tdata_sh ts) (Sh.list (k := 8) fun d h => by simp at h) ?_
  cases ts with
  | nil => exact k
  | cons t ts => exact k
theorem TAll.sub {H : Hp} {vs : List V} {ts : List Tal} (h : TAll H vs ts) (k : Nat) : TAll H (vs.drop k) (ts.drop k) := ⟨by rw [List.length_drop, List.length_drop, h.1], fun i v t h1 h2 => by
  rw [List.getElem?_drop] at h1 h2
  exact h.2 _ v t h1 h2⟩
theorem TAll.take {H : Hp} {vs : List V} {ts : List Tal} (h : TAll H vs ts) (k : Nat) : TAll H (vs.take k) (ts.take k) := ⟨by rw [List.length_take, List.length_take, h.1], fun i v t h1 h2 => by
  rw [List.getElem?_take] at h1 h2
  split at h1
  · rename_i hk
    rw [if_pos hk] at h2
    exact h.2 _ v t h1 h2
  · simp at h1⟩
/-! the next stamp -/
def spNow : Sp := fun vs H Q _ => ∃ c : Int, vs = [.int c] ∧ ∀ n : Int, 1 ≤ n → n < 10 ^ 30 → Q (.int n) H
theorem ok_now (T : Txt K mg) : FO P w K mg base 1 T.a__law_now T.fd__law_now ["_law_cell"] spNow := by
  have sc := sc__law_now
  refine T.F__law_now.okX sc (fun vs H Q E h => ?_) (fun cdv A outer s H vs Q E hr h => ?_)
  · obtain ⟨_, rfl, _⟩ := h
    rfl
  · obtain ⟨c, rfl, q⟩ := h
    refine ⟨_, (pss_cons (ps_if (pt_cmpR (op_uEq hr.units) (pe_op op_mod (pv 0) pe_int) pe_int (nomark _)) (pss_one (ps_ret (pe_op op_uAdd pe_int (pe_op op_mod (pe_op op_fdivW (pv 0) pe_int) pe_int)))) pss_nil)
      (pss_cons (ps_if (pt_cmpR (op_uEq hr.units) (pe_op op_mod (pv 0) pe_int) pe_int (nomark _)) (pss_one (ps_ret (pe_op op_sub (pe_op op_pow pe_int pe_int) pe_int))) pss_nil)
      (pss_one (ps_ret (pe_op op_uAdd pe_int (pe_op op_mod (pe_op op_uMul (pv 0) pe_int) (pe_op op_sub (pe_op op_pow pe_int pe_int) pe_int))))))), ?_⟩
    walk_at "begin"
    walk_at "if"
    refine x_iteD (fun h => ?_) (fun h => ?_)
    · walk_at "go"
      exact q _ (by omega) (by omega)
    · walk_at "go"
      walk_at "if"
      refine x_iteD (fun h => ?_) (fun h => ?_)
      · walk_at "go"
        exact q _ (by decide) (by decide)
      · walk_at "go"
        exact q _ (by omega) (by omega)
theorem small64 {n : Nat} (h : n ≤ 1000) : n < sizeLine := Nat.lt_of_le_of_lt h (by decide)
def spTallies (K : PySem.W.Frag) : Sp := fun vs H Q _ => ∃ (a : Addr) (ns : List Int) (st pages now : Int), vs = [.ref a, .int st, .int pages, .int now] ∧ SqL K H a (ns.map V.int) ∧ (0 ≤ st ∧ 1 ≤ pages ∧ pages ≤ 16 ∧ 1 ≤ now ∧ now < 10 ^ 30) ∧
  ∀ p ts H', Same H H' → H p = none → TL H' p ts → ts ≠ [] → Good pages now ts → ts.length ≤ 16 → Q (.ref p) H'
theorem ok_tallies (T : Txt K mg) : FO P w K mg base 2 T.a__law_tallies T.fd__law_tallies ["_law_script", "_law_start", "_law_pages", "_law_now_here"] (spTallies K) := by
  have sc := sc__law_tallies
  refine T.F__law_tallies.okX sc (fun vs H Q E h => ?_) (fun cdv A outer s H vs Q E hr h => ?_)
  · obtain ⟨_, _, _, _, _, rfl, _⟩ := h
    rfl
  · obtain ⟨a, ns, st, pages, now, rfl, hS, ⟨hst, hp1, hp16, hn1, hn30⟩, q⟩ := h
    refine ⟨_, (pss_cons (ps_set (i := 4) sc.nd rfl (by first | exact Or.inl rfl | exact Or.inr rfl) (pe_lst pa_nil))
      (pss_cons (ps_for (passes_of rfl) rfl (pi_range1 (by rfl) T.b_range (pa_cons pe_int pa_nil)) (pg_name (i := 5) sc.nd rfl (by first | exact Or.inl rfl | exact Or.inr rfl)) (pss_cons (ps_set (i := 6) sc.nd rfl (by first | exact Or.inl rfl | exact Or.inr rfl) (pe_callS (ok_cell_at T) (hr.mono (by decide)) (by rfl) T.g__law_cell_at T.k__law_cell_at T.bd__law_cell_at (passAt (takes_of rfl rfl rfl rfl)) (pa_cons (pv 0) (pa_cons (pe_op op_uAdd (pv 1) (pv 5)) pa_nil))))
      (pss_one (ps_if (pt_cmpR op_gt (pe_op op_mod (pv 6) pe_int) pe_int (nomark _)) (pss_cons (ps_set (i := 7) sc.nd rfl (by first | exact Or.inl rfl | exact Or.inr rfl) (pe_op op_mod (pe_op op_uAdd (pe_op op_uAdd (pe_op op_uMul (pv 6) pe_int) (pe_op op_uMul pe_int (pv 5))) pe_int) pe_int))
      (pss_cons (ps_set (i := 8) sc.nd rfl (by first | exact Or.inl rfl | exact Or.inr rfl) (pe_op op_mod (pe_op op_uMul (pe_op op_uMul (pv 7) (pv 7)) pe_int) (pe_ix ix_seq (pe_lst (pa_cons pe_int (pa_cons (pe_op op_pow pe_int pe_int) pa_nil))) (pe_op op_mod (pe_op op_fdivW (pv 6) pe_int) pe_int) (fun _ _ => rfl))))
      (pss_one (ps_expr (pe_bm PySem.F.plainAttrs_list PySem.F.slot_list_append PySem.F.type_list_append mt_append (pv 4) (pa_cons (pe_tup (pa_cons (pv 5) (pa_cons (pe_op op_mod (pe_op op_fdivW (pv 6) pe_int) (pe_op op_uAdd (pv 2) pe_int)) (pa_cons (pv 8) (pa_cons (pe_op op_mod (pe_op op_uMul (pe_op op_uMul (pv 7) (pv 7)) (pv 7)) (pv 3)) pa_nil))))) pa_nil)))))) pss_nil))))
      (pss_cons (ps_if (pt_cmpR (op_uEq hr.units) (pv 4) (pe_lst pa_nil) (nomark _)) (pss_one (ps_expr (pe_bm PySem.F.plainAttrs_list PySem.F.slot_list_append PySem.F.type_list_append mt_append (pv 4) (pa_cons (pe_tup (pa_cons (pe_op op_mod (pe_op op_fdivW (pe_callS (ok_cell_at T) (hr.mono (by decide)) (by rfl) T.g__law_cell_at T.k__law_cell_at T.bd__law_cell_at (passAt (takes_of rfl rfl rfl rfl)) (pa_cons (pv 0) (pa_cons (pv 1) pa_nil))) pe_int) pe_int) (pa_cons pe_int (pa_cons pe_int (pa_cons pe_int pa_nil))))) pa_nil)))) pss_nil)
      (pss_one (ps_ret (pv 4)))))), ?_⟩
    walk_at "begin"
    walk_at "go"
    rename_i p H1 hp hs hn
    refine x_seq ?_
    walk_at "go"
    refine x_frR1 (by omega) (fun i σ H2 => ∃ (ts : List Tal) (v5 v6 v7 v8 : Option V), σ = [some (.ref a), some (.int st), some (.int pages), some (.int now), some (.ref p), v5, v6, v7, v8] ∧ Same H H2 ∧ TL H2 p ts ∧ Good pages now ts ∧ (∀ t ∈ ts, t.b < (i : Nat)) ∧ ts.length ≤ i)
      ⟨[], _, _, _, _, rfl, hs, ⟨[], hn, TAll.nil⟩, ⟨fun t h => by simp at h, List.Pairwise.nil⟩, fun t h => by simp at h, Nat.le_refl _⟩ ?_ ?_
    · intro i σ H2 hi ⟨ts, v5, v6, v7, v8, hσ, hs2, ⟨vs, hvs, hall⟩, hg, hb, hl⟩
      subst hσ
      have hi16 : i < 16 := hi
      rw [Int.zero_add]
      walk_at "go"
      generalize cl ns (st + (i : Nat)) = c
      refine x_iteD (fun h => ?_) (fun h => ?_)
      · walk_at "go"
        have hn1 := Int.emod_nonneg (c * 48271 + 7919 * (i : Nat) + 11) (show (2147483647 : Int) ≠ 0 by decide)
        have hn2 := Int.emod_lt_of_pos (c * 48271 + 7919 * (i : Nat) + 11) (show (0 : Int) < 2147483647 by decide)
        generalize (c * 48271 + 7919 * (i : Nat) + 11) % 2147483647 = n at hn1 hn2 ⊢
        walk_at "go"
        obtain ⟨m, em, hm, hm4⟩ : ∃ m : Int, [V.int 4, V.int (10 ^ 30)].getD (c / 3 % 2).toNat V.non = V.int m ∧ 0 < m ∧ m ≤ 10 ^ 30 := by
          have hk : c / 3 % 2 = 0 ∨ c / 3 % 2 = 1 := by omega
          rcases hk with e | e <;> rw [e]
          · exact ⟨4, rfl, by decide, by decide⟩
          · exact ⟨10 ^ 30, rfl, by decide, Int.le_refl _⟩
        rw [em]
        have hc1 := Int.emod_nonneg (n * n * 69621) (show m ≠ 0 by omega)
        have hc2 := Int.emod_lt_of_pos (n * n * 69621) hm
        have hl1 := Int.emod_nonneg (c / 6) (show pages + 1 ≠ 0 by omega)
        have hl2 := Int.emod_lt_of_pos (c / 6) (show 0 < pages + 1 by omega)
        have ho1 := Int.emod_nonneg (n * n * n) (show now ≠ 0 by omega)
        have ho2 := Int.emod_lt_of_pos (n * n * n) (show 0 < now by omega)
        have hvl : vs.length < sizeLine := small64 (by have := hall.1; omega)
        walk_at "go"
        rename_i q0 H3 hq0 hs3 hn3 q4 H4 hq4 hs4 hn4
        have s24 : Same H2 H4 := hs3.trans hs4
        have hall4 := (hall.mono (TupS.of s24)).snoc (v := .ref q4) (t := ⟨(i : Nat), c / 6 % (pages + 1), n * n * 69621 % m, n * n * n % now⟩) ⟨q4, rfl, hn4⟩
        refine ⟨ts ++ [⟨(i : Nat), c / 6 % (pages + 1), n * n * 69621 % m, n * n * n % now⟩], _, _, _, _, rfl, same_updS (hs2.trans s24) hp, ⟨_, upd_same, hall4.mono (TupS.upd (s24 _ _ hvs) (fun _ z => by cases z))⟩, ⟨?_, ?_⟩, ?_, ?_⟩
        · intro t ht
          rcases List.mem_append.mp ht with ht | ht
          · exact hg.1 t ht
          · rw [List.mem_singleton] at ht
            subst ht
            refine ⟨?_, ?_, hl1, ?_, hc1, ?_, ho1, ho2⟩ <;> dsimp only <;> omega
        · refine List.pairwise_append.mpr ⟨hg.2, List.pairwise_singleton _ _, fun x hx y hy => ?_⟩
          rw [List.mem_singleton] at hy
          subst hy
          exact hb x hx
        · intro t ht
          rcases List.mem_append.mp ht with ht | ht
          · have := hb t ht
            omega
          · rw [List.mem_singleton] at ht
            subst ht
            dsimp only
            omega
        · rw [List.length_append, List.length_singleton]
          omega
      · walk_at "go"
        exact ⟨ts, _, _, _, _, rfl, hs2, ⟨vs, hvs, hall⟩, hg, fun t ht => by have := hb t ht; omega, by omega⟩
    · intro σ H2 ⟨ts, v5, v6, v7, v8, hσ, hs2, ⟨vs, hvs, hall⟩, hg, hb, hl⟩
      subst hσ
      dsimp only
      refine x_join (fun σ' H3 => ∃ ts' v5 v6 v7 v8, σ' = [some (.ref a), some (.int st), some (.int pages), some (.int now), some (.ref p), v5, v6, v7, v8] ∧ Same H H3 ∧ TL H3 p ts' ∧ Good pages now ts' ∧ ts' ≠ [] ∧ ts'.length ≤ 16) (fun R hR => ?_) ?_
      · walk_at "go"
        rename_i q0 H3 hq0 hs3 hn3
        refine TL.eqNil (TL.mono hs3 ⟨vs, hvs, hall⟩) hn3 ?_
        walk_at "go"
        cases ts with
        | cons t0 ts0 =>
          exact iteF (hR _ _ ⟨t0 :: ts0, _, _, _, _, rfl, hs2.trans hs3, TL.mono hs3 ⟨vs, hvs, hall⟩, hg, (fun z => by cases z), hl⟩)
        | nil =>
          refine iteT ?_
          have e0 : vs = [] := List.length_eq_zero_iff.mp hall.1
          subst e0
          walk_at "go"
          rename_i q4 H4 hq4 hs4 hn4
          have hb1 : 0 ≤ cl ns st / 3 % 16 ∧ cl ns st / 3 % 16 < 16 := by omega
          refine hR _ _ ⟨[⟨cl ns st / 3 % 16, 0, 0, 0⟩], _, _, _, _, rfl, same_updS ((hs2.trans hs3).trans hs4) hp, ⟨_, upd_same, ((TAll.nil (H := H4)).snoc (t := ⟨cl ns st / 3 % 16, 0, 0, 0⟩) ⟨q4, rfl, hn4⟩).mono (TupS.upd (hs4 _ _ (hs3 _ _ hvs)) (fun _ z => by cases z))⟩, ⟨?_, List.pairwise_singleton _ _⟩, (fun z => by cases z), Nat.le_of_ble_eq_true rfl⟩
          intro t ht
          rw [List.mem_singleton] at ht
          subst ht
          exact ⟨hb1.1, hb1.2, Int.le_refl _, by dsimp only; omega, Int.le_refl _, by dsimp only; omega, Int.le_refl _, by dsimp only; omega⟩
      · intro σ' H3 ⟨ts', v5, v6, v7, v8, hσ, hs3, ht, hg', hne, hl'⟩
        subst hσ
        walk_at "go"
        exact q p ts' H3 hs3 hp ht hne hg' hl'
theorem x_now {H : Hp} {Q : VK} {E : XK} {c : Int} (q : ∀ n : Int, 1 ≤ n → n < 10 ^ 30 → Q (.int n) H) : spNow [.int c] H Q E := ⟨c, rfl, q⟩
theorem x_tallies {H : Hp} {Q : VK} {E : XK} {a : Addr} {ns : List Int} {st pages now : Int} (hS : SqL K H a (ns.map V.int))
  (q : ∀ p ts H', Same H H' → H p = none → TL H' p ts → ts ≠ [] → Good pages now ts → ts.length ≤ 16 → Q (.ref p) H') (h : 0 ≤ st ∧ 1 ≤ pages ∧ pages ≤ 16 ∧ 1 ≤ now ∧ now < 10 ^ 30) : spTallies K [.ref a, .int st, .int pages, .int now] H Q E := ⟨a, ns, st, pages, now, rfl, hS, h, q⟩
local macro_rules | `(tactic| walk_at "u") => `(tactic| first
  | ((with_reducible refine x_now ?_); intro now hnow1 hnow2)
  | ((with_reducible refine' x_tallies ?hq ?_ ?hs); (case hq => walk_at "sq"); (try (case hs => walk_at "side")); intro p ts H1 hs hp hT hne hG hL))
/-! ### rules -/
def TOk (pages now : Int) (t : Tal) : Prop := 0 ≤ t.b ∧ t.b < 16 ∧ 0 ≤ t.l ∧ t.l ≤ pages ∧ 0 ≤ t.c ∧ t.c < 10 ^ 30 ∧ 0 ≤ t.o ∧ t.o < now
def PN (pages now : Int) : Prop := 1 ≤ pages ∧ pages ≤ 16 ∧ 1 ≤ now ∧ now < 10 ^ 30
/-- the same, of the object at r, as long as I is so -/
def spGAr (r : Addr) (I : Hp → Prop) (g : Int → Int → Tal → Tal → Bool) : Sp := fun vs H Q _ => ∃ (one other : V) (t u : Tal) (pages now : Int), vs = [.ref r, one, other, .int pages, .int now] ∧ I H ∧ TalAt H one t ∧ TalAt H other u ∧ TOk pages now t ∧ TOk pages now u ∧ PN pages now ∧
  ∀ H', Same H H' → Q (.bl (g pages now t u)) H'
/-- an object with such a rule: rf, what it leans on; n, its level -/
def RuleOb (P : Program) (w : World) (K : PySem.W.Frag) (mg : Str → Option Value) (base : Heap) (n : Nat) (g : Int → Int → Tal → Tal → Bool) (H : Hp) (rf : List Addr) (r : Addr) : Prop :=
  r ∈ rf ∧ (∀ a ∈ rf, ∃ o, H a = some o ∧ ∀ xs, o ≠ .tup xs) ∧ ∃ C dx fs I, H r = some (.ins C dx fs) ∧ fs.lookup (Str.ofString "goes_ahead") = none ∧ fs.lookup (Str.ofString "choose") = none ∧
    (∀ H1 H2 : Hp, (∀ a ∈ rf, ∀ o, H1 a = some o → H2 a = some o) → I H1 → I H2) ∧ I H ∧ MO P w K mg base (L2.CX P w) n C "goes_ahead" (spGAr r I g)
theorem RuleOb.keep {n : Nat} {g : Int → Int → Tal → Tal → Bool} {H H' : Hp} {rf : List Addr} {r : Addr} (k : ∀ a ∈ rf, ∀ o, H a = some o → H' a = some o) (h : RuleOb P w K mg base n g H rf r) : RuleOb P w K mg base n g H' rf r := by
  obtain ⟨m, t, C, dx, fs, I, e, l1, l2, st, i, mo⟩ := h
  exact ⟨m, fun a ha => let ⟨o, e, z⟩ := t a ha; ⟨o, k a ha o e, z⟩, C, dx, fs, I, k r m _ e, l1, l2, st, st H H' k i, mo⟩
theorem RuleOb.mono {n : Nat} {g : Int → Int → Tal → Tal → Bool} {H H' : Hp} {rf : List Addr} {r : Addr} (s : Same H H') (h : RuleOb P w K mg base n g H rf r) : RuleOb P w K mg base n g H' rf r := h.keep fun a _ o e => s a o e
/-- the first of those that no later one goes ahead of -/
def pickL (g : Tal → Tal → Bool) (b : Tal) (ts : List Tal) : Tal := ts.foldl (fun b u => if g u b = true then u else b) b
def pick (g : Tal → Tal → Bool) : List Tal → Tal
  | [] => ⟨0, 0, 0, 0⟩
  | t :: ts => pickL g t ts
theorem pickL_mem (g : Tal → Tal → Bool) : ∀ (ts : List Tal) (b : Tal), pickL g b ts = b ∨ pickL g b ts ∈ ts
  | [], b => .inl rfl
  | t :: ts, b => by
    show pickL g (if g t b = true then t else b) ts = b ∨ _
    rcases pickL_mem g ts (if g t b = true then t else b) with h | h
    · rw [h]
      show _ ∨ pickL g (if g t b = true then t else b) ts ∈ _
      rw [h]
      by_cases hg : g t b = true
      · rw [if_pos hg]; exact .inr List.mem_cons_self
      · rw [if_neg hg]; exact .inl rfl
    · exact .inr (List.mem_cons_of_mem _ h)
theorem pickL_snoc (g : Tal → Tal → Bool) (b t : Tal) (ts : List Tal) : pickL g b (ts ++ [t]) = if g t (pickL g b ts) = true then t else pickL g b ts := by
  unfold pickL
  rw [List.foldl_append]
  rfl
def spChoose (P : Program) (w : World) (K : PySem.W.Frag) (mg : Str → Option Value) (base : Heap) : Sp := fun vs H Q _ => ∃ (r p : Addr) (pages now : Int) (ts : List Tal) (g : Int → Int → Tal → Tal → Bool) (rf : List Addr), vs = [.ref r, .ref p, .int pages, .int now] ∧ RuleOb P w K mg base 17 g H rf r ∧ TL H p ts ∧ ts ≠ [] ∧ (∀ t ∈ ts, TOk pages now t) ∧ ts.length ≤ 16 ∧ PN pages now ∧
  ∀ H', Same H H' → Q (.int (pick (g pages now) ts).b) H'
theorem ok_Rule_choose (T : Txt K mg) : FO P w K mg base 18 T.a_Rule_choose T.fd_Rule_choose ["self", "tallies", "pages", "now"] (spChoose P w K mg base) := by
  have sc := sc_Rule_choose
  refine T.F_Rule_choose.okX sc (fun vs H Q E h => ?_) (fun cdv A outer s H vs Q E hr h => ?_)
  · obtain ⟨_, _, _, _, _, _, _, rfl, _⟩ := h
    rfl
  · obtain ⟨r, p, pages, now, ts, g, rf, rfl, hR, hT, hne, hok, hlen, hpn, q⟩ := h
    refine ⟨_, (pss_cons (ps_set (i := 4) sc.nd rfl (by first | exact Or.inl rfl | exact Or.inr rfl) (pe_ix ix_seq (pv 1) pe_int (fun _ _ => rfl)))
      (pss_cons (ps_for (passes_of rfl) rfl (pi_list (pe_slice sl_u (pv 1) (po_some pe_int) po_none)) (pg_name (i := 5) sc.nd rfl (by first | exact Or.inl rfl | exact Or.inr rfl)) (pss_one (ps_if (pt_truth (pe_methD (k := 17) (pv 0) (hr.mono (by decide)) (passAt (takes_of rfl rfl rfl rfl)) (pa_cons (pv 5) (pa_cons (pv 4) (pa_cons (pv 2) (pa_cons (pv 3) pa_nil))))) (by intro _; rfl)) (pss_one (ps_set (i := 4) sc.nd rfl (by first | exact Or.inl rfl | exact Or.inr rfl) (pv 5))) pss_nil)))
      (pss_one (ps_ret (pe_ix ix_seq (pv 4) pe_int (fun _ _ => rfl)))))), ?_⟩
    obtain ⟨vs, hvs, hall⟩ := hT
    obtain ⟨t0, ts0, rfl⟩ : ∃ t0 ts0, ts = t0 :: ts0 := by
      cases ts with
      | nil => exact absurd rfl hne
      | cons a b => exact ⟨a, b, rfl⟩
    obtain ⟨v0, vs0, rfl⟩ : ∃ v0 vs0, vs = v0 :: vs0 := by
      cases vs with
      | nil => exact absurd hall.1 (by simp)
      | cons a b => exact ⟨a, b, rfl⟩
    walk_at "begin"
    walk_at "go"
    refine x_seq ?_
    walk_at "go"
    rename_i q0 H1 hq0 hs1 hn1
    rw [show cutV (v0 :: vs0) (some 1) none = vs0 from cutV_from 1] at hn1
    have hall1 : TAll H1 vs0 ts0 := (hall.mono (TupS.of hs1)).sub 1
    refine x_frL (SqL.of hn1) (fun i σ H2 => ∃ (v5 : Option V) (bv : V), σ = [some (.ref r), some (.ref p), some (.int pages), some (.int now), some bv, v5] ∧ Same H1 H2 ∧ TalAt H2 bv (pickL (g pages now) t0 (ts0.take i)))
      ⟨_, _, rfl, fun _ _ h => h, (hall.2 0 v0 t0 rfl rfl).mono (TupS.of hs1)⟩ (fun i σ H2 hi ⟨_, _, _, hs2, _⟩ => hs2.seq (SqL.of hn1)) ?_ ?_
    · intro i x σ H2 hx ⟨v5, bv, hσ, hs2, hb⟩
      subst hσ
      obtain ⟨t, hti, hxt⟩ := hall1.get hx
      have hit := (List.getElem?_eq_some_iff.mp hti).1
      have hbo : TOk pages now (pickL (g pages now) t0 (ts0.take i)) := by
        rcases pickL_mem (g pages now) (ts0.take i) t0 with e | m
        · rw [e]; exact hok _ List.mem_cons_self
        · exact hok _ (List.mem_cons_of_mem _ (List.mem_of_mem_take m))
      obtain ⟨_, _, C, dx, fs, I, hC, hl1, _, _, hI, hM⟩ := hR.mono (hs1.trans hs2)
      walk_at "go"
      refine x_mtK hC hM hl1 ?_
      walk_at "go"
      refine ⟨_, _, t, _, pages, now, rfl, hI, hxt.mono (TupS.of hs2), hb, hok _ (List.mem_cons_of_mem _ (List.mem_of_getElem? hti)), hbo, hpn, fun H3 hs3 => ?_⟩
      have et : ts0.take (i + 1) = ts0.take i ++ [t] := by rw [List.take_add_one, hti]; rfl
      rw [et, pickL_snoc]
      walk_at "go"
      refine x_iteB (fun hg => ?_) (fun hg => ?_)
      · walk_at "go"
        rw [if_pos hg]
        exact ⟨_, _, rfl, hs2.trans hs3, (hxt.mono (TupS.of hs2)).mono (TupS.of hs3)⟩
      · walk_at "go"
        rw [if_neg (by rw [hg]; decide)]
        exact ⟨_, _, rfl, hs2.trans hs3, hb.mono (TupS.of hs3)⟩
    · intro σ H2 ⟨v5, bv, hσ, hs2, hb⟩
      subst hσ
      rw [hall1.1, List.take_length] at hb
      obtain ⟨a, rfl, hb⟩ := hb
      walk_at "go"
      exact q _ (hs1.trans hs2)
/-! ### rules, told (as in p0; for laws without a store) -/
inductive Rl
  | by (g : Int → Int → Tal → Tal → Bool)
  | window (n : Int)
  | follow (l : List Int) (i : Nat)
def Rl.choose (R : Rl) (ts : List Tal) (pages now : Int) : Int × Rl := match R with
  | .by g => ((pick (g pages now) ts).b, .by g)
  | .window n => ((pick (fun t u => decide (t.l < u.l)) (ts.filter fun t => decide ((t.o, t.b) ∈ (sortP (ts.map fun t => (t.o, t.b))).take n.toNat))).b, .window n)
  | .follow l i => (match l[i]? with
    | none => (ts.headD ⟨0, 0, 0, 0⟩).b
    | some b => if (ts.any fun t => decide (t.b = b)) = true then b else (ts.headD ⟨0, 0, 0, 0⟩).b, .follow l (i + 1))
/-! ### rules as objects: by a way to go ahead (Rule, Fewest, Eldest, Worth), a window, a list that is followed -/
def Rl.kind : Rl → Nat
  | .by _ => 0
  | .window _ => 1
  | .follow _ _ => 2
/-- what such an object of the class C is like -/
def RlOb (P : Program) (w : World) (K : PySem.W.Frag) (mg : Str → Option Value) (base : Heap) (C : Addr) (H : Hp) (rf : List Addr) (r : Addr) (R : Rl) : Prop := match R with
  | .by g => RuleOb P w K mg base 17 g H rf r ∧ ∃ dx fs, H r = some (.ins C dx fs)
  | .window n => rf = [r] ∧ (1 ≤ n ∧ n ≤ 16) ∧ ∃ dx, H r = some (.ins C dx [("many", .int n)])
  | .follow l i => ∃ bl, rf = [r, bl] ∧ ∃ dx, H r = some (.ins C dx [("blocks", .ref bl), ("asked", .int (i : Int))]) ∧ H bl = some (.lst (l.map V.int))
theorem RlOb.ins {C : Addr} {H : Hp} {rf : List Addr} {r : Addr} {R : Rl} (h : RlOb P w K mg base C H rf r R) : r ∈ rf ∧ ∃ dx fs, H r = some (.ins C dx fs) ∧ fs.lookup (Str.ofString "choose") = none := by
  cases R with
  | «by» g =>
    obtain ⟨⟨m, _, C', dx', fs', _, e, _, l, _⟩, dx, fs, h⟩ := h
    rw [e] at h
    cases h
    exact ⟨m, dx', fs', e, l⟩
  | window n =>
    obtain ⟨e, _, dx, h⟩ := h
    exact ⟨by rw [e]; exact List.mem_cons_self, dx, _, h, rfl⟩
  | follow l i =>
    obtain ⟨bl, e, dx, h, _⟩ := h
    exact ⟨by rw [e]; exact List.mem_cons_self, dx, _, h, rfl⟩
theorem RlOb.there {C : Addr} {H : Hp} {rf : List Addr} {r : Addr} {R : Rl} (h : RlOb P w K mg base C H rf r R) : ∀ a ∈ rf, ∃ o, H a = some o ∧ ∀ xs, o ≠ .tup xs := fun a ha => by
  cases R with
  | «by» g =>
    exact h.1.2.1 a ha
  | window n =>
    obtain ⟨e, _, dx, h⟩ := h
    rw [e, List.mem_singleton] at ha
    rw [ha]
    exact ⟨_, h, fun _ z => by cases z⟩
  | follow l i =>
    obtain ⟨bl, e, dx, h, h2⟩ := h
    rw [e] at ha
    rcases List.mem_cons.mp ha with z | z
    · rw [z]
      exact ⟨_, h, fun _ z => by cases z⟩
    · rw [List.mem_singleton.mp z]
      exact ⟨_, h2, fun _ z => by cases z⟩
theorem RlOb.off {C : Addr} {H H' : Hp} {rf : List Addr} {r : Addr} {R : Rl} {S : List Addr} (h : RlOb P w K mg base C H rf r R) (o : Off S H H') (n : ∀ a ∈ rf, a ∉ S) : RlOb P w K mg base C H' rf r R := by
  cases R with
  | «by» g =>
    obtain ⟨ob, dx, fs, h⟩ := h
    exact ⟨ob.keep fun a ha u e => o.at e (n a ha), dx, fs, o.at h (n r ob.1)⟩
  | window k =>
    obtain ⟨e, hk, dx, h⟩ := h
    exact ⟨e, hk, dx, o.at h (n r (by rw [e]; exact List.mem_cons_self))⟩
  | follow l i =>
    obtain ⟨bl, e, dx, h, h2⟩ := h
    exact ⟨bl, e, dx, o.at h (n r (by rw [e]; exact List.mem_cons_self)), o.at h2 (n bl (by rw [e]; exact List.mem_cons_of_mem _ List.mem_cons_self))⟩
/-- how it chooses -/
def spChR (P : Program) (w : World) (K : PySem.W.Frag) (mg : Str → Option Value) (base : Heap) (kind : Nat) (C : Addr) : Sp := fun vs H Q _ => ∃ (rf : List Addr) (r p : Addr) (R : Rl) (ts : List Tal) (pages now : Int), vs = [.ref r, .ref p, .int pages, .int now] ∧ R.kind = kind ∧ RlOb P w K mg base C H rf r R ∧ TL H p ts ∧ ts ≠ [] ∧ (∀ t ∈ ts, TOk pages now t) ∧ ts.length ≤ 16 ∧ PN pages now ∧
  ∀ H', Off rf H H' → RlOb P w K mg base C H' rf r (R.choose ts pages now).2 → Q (.int (R.choose ts pages now).1) H'
def RlAt (P : Program) (w : World) (K : PySem.W.Frag) (mg : Str → Option Value) (base : Heap) (H : Hp) (rf : List Addr) (r : Addr) (R : Rl) : Prop := ∃ C, RlOb P w K mg base C H rf r R ∧ Cls K C ∧ MO P w K mg base (L2.CX P w) 18 C "choose" (spChR P w K mg base R.kind C)
theorem RlAt.there {H : Hp} {rf : List Addr} {r : Addr} {R : Rl} (h : RlAt P w K mg base H rf r R) : ∀ a ∈ rf, ∃ o, H a = some o ∧ ∀ xs, o ≠ .tup xs := by
  obtain ⟨C, h, _⟩ := h
  exact h.there
theorem RlAt.off {H H' : Hp} {rf : List Addr} {r : Addr} {R : Rl} {S : List Addr} (h : RlAt P w K mg base H rf r R) (o : Off S H H') (n : ∀ a ∈ rf, a ∉ S) (tt : TupS H H') : RlAt P w K mg base H' rf r R := by
  obtain ⟨C, h, c, m⟩ := h
  exact ⟨C, h.off o n, c, m⟩
theorem RlAt.mono {H H' : Hp} {rf : List Addr} {r : Addr} {R : Rl} (s : Same H H') (h : RlAt P w K mg base H rf r R) : RlAt P w K mg base H' rf r R :=
  h.off (S := []) (Off.of s) (fun _ _ z => by cases z) (TupS.of s)
/-- a rule that chooses among what it is told -/
def Rl.ok : Rl → Prop
  | .window n => 1 ≤ n
  | _ => True
theorem RlAt.ok {H : Hp} {rf : List Addr} {r : Addr} {R : Rl} (h : RlAt P w K mg base H rf r R) : R.ok := by
  obtain ⟨C, h, _⟩ := h
  cases R with
  | «by» g => trivial
  | window _ => exact h.2.1.1
  | follow _ _ => trivial
/-! ### the rules Rule, Fewest, Eldest -/
/-! ### rules by a weight, and rules turned -/
/-- what a weight promises, called with a tally -/
def spWt (LA : Hp → Prop) (wt : Tal → Int) : Sp := fun vs H Q _ => ∃ (one : V) (t : Tal) (pages now : Int), vs = [one] ∧ LA H ∧ TalAt H one t ∧ TOk pages now t ∧ PN pages now ∧ ∀ H', Same H H' → Q (.int (wt t)) H'
structure WtOk (P : Program) (w : World) (K : PySem.W.Frag) (mg : Str → Option Value) (base : Heap) (f : Addr) (LA : Hp → Prop) (wt : Tal → Int) : Prop where
  ok : LamOk P w K mg base 3 f (spWt LA wt)
  pin : ∀ H, LA H → ∃ fd, H f = some (PinO f (fnO fd))
  mono : ∀ H H', Same H H' → LA H → LA H'
def spWgInit (T : Txt K mg) : Sp := fun vs H Q _ => ∃ (r dx f : Addr), vs = [.ref r, .ref f] ∧ H r = some (.ins T.C_Weighed dx []) ∧ ∀ H', Off [r] H H' → H' r = some (.ins T.C_Weighed dx [("weigh", .ref f)]) → Q .non H'
theorem ok_Weighed_init (T : Txt K mg) : FO P w K mg base 1 T.a_Weighed_init T.fd_Weighed_init ["self", "weigh"] (spWgInit T) := by
  have sc := sc_Weighed_init
  refine T.F_Weighed_init.okX sc (fun vs H Q E h => ?_) (fun cdv A outer s H vs Q E hr h => ?_)
  · obtain ⟨_, _, _, rfl, _⟩ := h
    rfl
  · obtain ⟨r, dx, f, rfl, hR, q⟩ := h
    refine ⟨_, (pss_one (ps_fld (pv 0) (pv 1) rfl)), ?_⟩
    walk_at "begin"
    walk_at "go"
    rename_i H1 hO1 hI1
    exact q H1 hO1 hI1
def spWgGA (T : Txt K mg) (P : Program) (w : World) (base : Heap) : Sp := fun vs H Q _ => ∃ (r dx f : Addr) (LA : Hp → Prop) (wt : Tal → Int) (one other : V) (t u : Tal) (pages now : Int), vs = [.ref r, one, other, .int pages, .int now] ∧ H r = some (.ins T.C_Weighed dx [("weigh", .ref f)]) ∧ WtOk P w K mg base f LA wt ∧ LA H ∧ TalAt H one t ∧ TalAt H other u ∧ TOk pages now t ∧ TOk pages now u ∧ PN pages now ∧
  ∀ H', Same H H' → Q (.bl (decide (wt t < wt u))) H'
theorem ok_Weighed_goes_ahead (T : Txt K mg) : FO P w K mg base 4 T.a_Weighed_goes_ahead T.fd_Weighed_goes_ahead ["self", "one", "other", "pages", "now"] (spWgGA T P w base) := by
  have sc := sc_Weighed_goes_ahead
  refine T.F_Weighed_goes_ahead.okX sc (fun vs H Q E h => ?_) (fun cdv A outer s H vs Q E hr h => ?_)
  · obtain ⟨_, _, _, _, _, _, _, _, _, _, _, rfl, _⟩ := h
    rfl
  · obtain ⟨r, dx, f, LA, wt, one, other, t, u, pages, now, rfl, hR, hW, hA, h1, h2, o1, o2, hpn, q⟩ := h
    obtain ⟨fd, hp⟩ := hW.pin H hA
    refine ⟨_, (pss_one (ps_ret (pe_cmpR op_uLt (pe_fcall (k := 3) (pv 0) (hr.mono (by decide)) (passAt (takes_of rfl rfl rfl rfl)) (pa_cons (pv 1) pa_nil)) (pe_fcall (k := 3) (pv 0) (hr.mono (by decide)) (passAt (takes_of rfl rfl rfl rfl)) (pa_cons (pv 2) pa_nil)) (nomark _)))), ?_⟩
    walk_at "begin"
    walk_at "go"
    refine x_fc ?_
    walk_at "go"
    refine x_fcK hR rfl hW.ok hp T.cl_Weighed T.na_Weighed_weigh ?_
    walk_at "go"
    refine ⟨hp, ⟨_, rfl⟩, _, t, pages, now, rfl, hA, h1, o1, hpn, fun H1 hs1 => ?_⟩
    have hR1 := hs1 _ _ hR
    have hp1 := hs1 _ _ hp
    have h21 := h2.mono (TupS.of hs1)
    have hA1 := hW.mono _ _ hs1 hA
    walk_at "go"
    refine x_fc ?_
    walk_at "go"
    refine x_fcK hR1 rfl hW.ok hp1 T.cl_Weighed T.na_Weighed_weigh ?_
    walk_at "go"
    refine ⟨hp1, ⟨_, rfl⟩, _, u, pages, now, rfl, hA1, h21, o2, hpn, fun H2 hs2 => ?_⟩
    walk_at "go"
    exact q H2 (hs1.trans hs2)
theorem rob_Weighed (T : Txt K mg) {H : Hp} {r dx f : Addr} {LA : Hp → Prop} {wt : Tal → Int} {la : List Addr} (h : H r = some (.ins T.C_Weighed dx [("weigh", .ref f)])) (hW : WtOk P w K mg base f LA wt) (hA : LA H) (hk : ∀ H1 H2 : Hp, (∀ a ∈ la, ∀ o, H1 a = some o → H2 a = some o) → LA H1 → LA H2) (hl : ∀ a ∈ la, ∃ o, H a = some o ∧ ∀ xs, o ≠ .tup xs) :
    RuleOb P w K mg base 4 (fun _ _ t u => decide (wt t < wt u)) H (r :: la) r := by
  refine ⟨List.mem_cons_self, fun a ha => ?_, T.C_Weighed, dx, _, fun H => H r = some (.ins T.C_Weighed dx [("weigh", .ref f)]) ∧ LA H, h, rfl, rfl, fun H1 H2 k ⟨a, b⟩ => ⟨k _ List.mem_cons_self _ a, hk H1 H2 (fun x hx => k x (List.mem_cons_of_mem _ hx)) b⟩, ⟨h, hA⟩, ?_⟩
  · rcases List.mem_cons.mp ha with z | z
    · rw [z]
      exact ⟨_, h, fun xs z => by cases z⟩
    · exact hl a z
  · exact ⟨⟨_, _, _, T.cl_Weighed, T.m_Weighed_goes_ahead, (ok_Weighed_goes_ahead T).imp fun vs H Q E ⟨one, other, t, u, pages, now, e, ⟨i1, i2⟩, h1, h2, o1, o2, hpn, q⟩ => ⟨r, dx, f, LA, wt, one, other, t, u, pages, now, e, i1, hW, i2, h1, h2, o1, o2, hpn, q⟩, T.bd_Weighed_goes_ahead⟩⟩
theorem RuleOb.up {n m : Nat} {g : Int → Int → Tal → Tal → Bool} {H : Hp} {rf : List Addr} {r : Addr} (h : RuleOb P w K mg base n g H rf r) (k : n ≤ m) : RuleOb P w K mg base m g H rf r := by
  obtain ⟨a, b, C, dx, fs, I, e, l1, l2, st, i, f, fd, ps, c1, c2, c3, c4⟩ := h
  exact ⟨a, b, C, dx, fs, I, e, l1, l2, st, i, ⟨⟨f, fd, ps, c1, c2, c3.mono k, c4⟩⟩⟩
/-- the least by a rank -/
structure FirstMin (f : Tal → Int) (ts : List Tal) (i : Nat) (r : Tal) : Prop where
  at_ : ts[i]? = some r
  le : ∀ t ∈ ts, f r ≤ f t
  lt : ∀ j t, j < i → ts[j]? = some t → f r < f t
theorem pick_firstMin (f : Tal → Int) : ∀ (ts : List Tal), ts ≠ [] → ∃ i, FirstMin f ts i (pick (fun t u => decide (f t < f u)) ts) := by
  have key : ∀ (ts : List Tal) (done : List Tal) (b : Tal) (i : Nat), FirstMin f done i b → ∃ i, FirstMin f (done ++ ts) i (pickL (fun t u => decide (f t < f u)) b ts) := by
    intro ts
    induction ts with
    | nil => intro done b i h; rw [List.append_nil]; exact ⟨i, h⟩
    | cons t ts ih =>
      intro done b i h
      have e : done ++ t :: ts = (done ++ [t]) ++ ts := by simp
      rw [e]
      show ∃ i, FirstMin f _ i (pickL _ (if decide (f t < f b) = true then t else b) ts)
      by_cases hg : f t < f b
      · rw [if_pos (decide_eq_true hg)]
        refine ih _ _ done.length ⟨by rw [List.getElem?_append_right (Nat.le_refl _), Nat.sub_self]; rfl, fun x hx => ?_, fun j x hj hx => ?_⟩
        · rcases List.mem_append.mp hx with hx | hx
          · have := h.le x hx; omega
          · rw [List.mem_singleton] at hx; subst hx; exact Int.le_refl _
        · rw [List.getElem?_append_left hj] at hx
          have := h.le x (List.mem_of_getElem? hx)
          omega
      · rw [if_neg (by simpa using hg)]
        have hi := (List.getElem?_eq_some_iff.mp h.at_).1
        refine ih _ _ i ⟨by rw [List.getElem?_append_left hi]; exact h.at_, fun x hx => ?_, fun j x hj hx => ?_⟩
        · rcases List.mem_append.mp hx with hx | hx
          · exact h.le x hx
          · rw [List.mem_singleton] at hx; subst hx; omega
        · rw [List.getElem?_append_left (by omega)] at hx
          exact h.lt j x hj hx
  intro ts hne
  cases ts with
  | nil => exact absurd rfl hne
  | cons t ts =>
    have := key ts [t] t 0 ⟨rfl, fun x hx => by rw [List.mem_singleton] at hx; subst hx; exact Int.le_refl _, fun j x hj => by omega⟩
    exact this
/-- the law's own way to the first of the least -/
def spFirst (K : PySem.W.Frag) : Sp := fun vs H Q _ => ∃ (p r : Addr) (ts : List Tal) (f : Tal → Int), vs = [.ref p, .ref r] ∧ TL H p ts ∧ SqL K H r ((ts.map f).map V.int) ∧ ts ≠ [] ∧ ∀ H', Same H H' → Q (.int (pick (fun t u => decide (f t < f u)) ts).b) H'
theorem x_first {H : Hp} {Q : VK} {E : XK} {p r : Addr} {ts : List Tal} {f : Tal → Int} (hT : TL H p ts) (hS : SqL K H r ((ts.map f).map V.int)) (hne : ts ≠ []) (q : ∀ H', Same H H' → Q (.int (pick (fun t u => decide (f t < f u)) ts).b) H') : spFirst K [.ref p, .ref r] H Q E :=
  ⟨p, r, ts, f, rfl, hT, hS, hne, q⟩
theorem ok_first (T : Txt K mg) : FO P w K mg base 1 T.a__law_first T.fd__law_first ["_law_tallies_here", "_law_ranks"] (spFirst K) := by
  have sc := sc__law_first
  refine T.F__law_first.okX sc (fun vs H Q E h => ?_) (fun cdv A outer s H vs Q E hr h => ?_)
  · obtain ⟨_, _, _, _, rfl, _⟩ := h
    rfl
  · obtain ⟨p, r, ts, f, rfl, ⟨vs, hvs, hall⟩, hS, hne, q⟩ := h
    refine ⟨_, (pss_cons (ps_set (i := 2) sc.nd rfl (by first | exact Or.inl rfl | exact Or.inr rfl) (pe_callB (cr_umin) (by rfl) T.b_min bt_min (pa_cons (pv 1) pa_nil)))
      (pss_cons (ps_for (passes_of rfl) rfl (pi_zip (by rfl) T.b_zip (pa_cons (pv 0) (pa_cons (pv 1) pa_nil))) (pg_tup (by rfl) (pgs_cons (pg_name (i := 3) sc.nd rfl (by first | exact Or.inl rfl | exact Or.inr rfl)) (pgs_cons (pg_name (i := 4) sc.nd rfl (by first | exact Or.inl rfl | exact Or.inr rfl)) pgs_nil))) (pss_one (ps_if (pt_cmpR (op_uEq hr.units) (pv 4) (pv 2) (nomark _)) (pss_one (ps_ret (pe_ix ix_seq (pv 3) pe_int (fun _ _ => rfl)))) pss_nil)))
      (pss_one (ps_ret pe_non)))), ?_⟩
    obtain ⟨i0, hF⟩ := pick_firstMin f ts hne
    generalize pick (fun t u => decide (f t < f u)) ts = b at hF q
    have hpos : 0 < (ts.map f).length := by rw [List.length_map]; exact List.length_pos_iff.mpr hne
    walk_at "begin"
    walk_at "go"
    refine .inr ⟨r, ts.map f, rfl, hS, hpos, fun m hm hle => ?_⟩
    have em : m = f b := by
      obtain ⟨t, ht, rfl⟩ := List.mem_map.mp hm
      have h1 := hF.le t ht
      have h2 := hle (f b) (List.mem_map.mpr ⟨b, List.mem_of_getElem? hF.at_, rfl⟩)
      omega
    subst em
    walk_at "go"
    refine x_seq ?_
    walk_at "go"
    refine x_frZ (SqL.of hvs) hS (by rw [List.length_map, List.length_map]; exact hall.1) (fun i σ H2 => ∃ (v3 v4 : Option V), σ = [some (.ref p), some (.ref r), some (.int (f b)), v3, v4] ∧ Same H H2 ∧ i ≤ i0)
      ⟨_, _, rfl, fun _ _ h => h, Nat.zero_le _⟩ (fun i σ H2 ⟨_, _, _, hs2, _⟩ => ⟨hs2.seq (SqL.of hvs), hs2.seq hS⟩) ?_ ?_
    · intro i x y σ H2 H3 hx hy ⟨v3, v4, hσ, hs2, hi⟩ hs3
      subst hσ
      obtain ⟨t, hti, hxt⟩ := hall.get hx
      have ey : y = .int (f t) := by
        rw [List.getElem?_map, List.getElem?_map, hti] at hy
        exact (Option.some.inj hy).symm
      subst ey
      dsimp only [List.set]
      walk_at "go"
      refine x_iteD (fun h => ?_) (fun h => ?_)
      · have e : i = i0 := by
          rcases Nat.lt_or_ge i i0 with hlt | hge
          · have := hF.lt i t hlt hti
            omega
          · omega
        subst e
        have e2 : t = b := Option.some.inj (hti.symm.trans hF.at_)
        subst e2
        obtain ⟨a, rfl, hxt⟩ := hxt.mono (TupS.of (hs2.trans hs3))
        walk_at "go"
        exact q _ (hs2.trans hs3)
      · walk_at "go"
        refine ⟨_, _, rfl, hs2.trans hs3, ?_⟩
        rcases Nat.lt_or_ge i i0 with hlt | hge
        · exact hlt
        · have e : i = i0 := by omega
          subst e
          have e2 : t = b := Option.some.inj (hti.symm.trans hF.at_)
          subst e2
          exact absurd rfl h
    · intro σ H2 ⟨v3, v4, hσ, hs2, hi⟩
      have := (List.getElem?_eq_some_iff.mp hF.at_).1
      rw [hall.1] at hi
      omega
/-! ### a def that hands out a lambda: what it captured is new -/
section
open PySem PySem.Spec PyProof.Rows L2 LamX
theorem x_lamK {P : Addr} {T : List (Addr × Str)} {q : Str} {params : Arguments} {body : Expr} {scope : Scope} {cl : List (Str × Addr)} {σ : L2.St} {H : Hp} {Q : VK} (hT : Tabs T H) (h : LamMade P T q params body scope cl H Q) : tLamK P T q params body scope cl σ H Q := ⟨hT, h⟩
end
--#CUT
/-! ### a lambda that reads a cell of a frame that lives: the cell is shown to the call alone -/
section
open PySem PySem.Spec PyProof.Rows L2 LamX Kit
/-- a def that makes lambdas and keeps them to itself -/
theorem okL {P : Program} {w : World} {K : PySem.W.Frag} {mg : Str → Option Value} {base : Heap} {x qual : Str} {st : Stmt} {f : Addr} {fd : FuncData} {N ps : List Str} {k : Nat} {sp : Sp} (F : Fun K x qual st f fd) (S : FnScope N ps (defScope st)) (len : ∀ vs H Q E, sp vs H Q E → vs.length = ps.length)
    (hbody : ∀ (A : Around) (outer : List Env) (s : Shared) (H : Hp) (vs : List V) (Q : VK) (E : XK), Room k (A.deeper (envOfC qual (defScope st) s.heap.objs.size f fd.code)) → sp vs H Q E →
      ∃ t, PSs (cxOf (L2.CX P w) P w K mg base N qual (defScope st) f fd.code A outer s H E) (defBody st) t ∧
        t { nx := fun _ H' => Q .non H', rt := Q } (L2.start N vs) H) : FnOk P w K mg base (L2.CX P w) (k + 1) f fd ps sp := by
  obtain ⟨oc, od, kV, doc, pm, an, cdv, ct, osl, rfl, lk, hcd⟩ := F.ex
  refine ⟨len, fun A outer s H args us vs Q E hr e0 hb r hsp => ?_⟩
  have hl := len _ _ _ _ hsp
  have KX : K.In s.heap := e0.mod.kin.keeps fun b o e => (e0.bs b o e).1
  have lim : s.heap.NoLimit := e0.mod.nolimit.keeps fun b o e => (e0.bs b o e).1
  have hkind : ∀ y ∈ ps.zip us, (defScope st).names.lookup y.1 = some .local ∨ ((defScope st).names.lookup y.1 = some .cell ∧ ((cellsFrom (s.heap.objs.size + 1) (defScope st).names []).lookup y.1).isSome = true) := fun ⟨n, v⟩ hy => by
    rcases S.par n (List.of_mem_zip hy).1 with q | q
    · exact .inl q
    · exact .inr ⟨q, PySem.W.cellsFrom_some _ _ _ (.inl q)⟩
  refine codeAny_call_function hr.depth (KX _ _ lk) rfl S.co S.gen rfl (PySem.W.codeRec_of KX hcd) (hb _ _ _ _ ?_)
  refine wpAny_newFunctionEnv_cells S.kind hkind fun env he s1 y => ?_
  subst he
  refine ⟨lim.keeps y.toInCall.keep, codeAny_func ?_⟩
  obtain ⟨t, ht, hq⟩ := hbody A outer s H vs Q E (hr.deeper _) hsp
  have I := inv_start (CX := L2.CX P w) (E := E) S hr.hd e0 hl r y
  refine wpAny_mono (ht.run [] s1 (L2.start N vs) H _ I hq) (fun fl s' hs => ?_) fun e s' hs => hs
  cases fl with
  | next =>
    obtain ⟨σ', H', J, q⟩ := hs
    exact ⟨V.non, H', J.os, J.bare, J.base, J.hok, rfl, q⟩
  | brk =>
    obtain ⟨_, _, _, z⟩ := hs
    exact z.elim
  | cont =>
    obtain ⟨_, _, _, z⟩ := hs
    exact z.elim
  | ret u =>
    obtain ⟨v, σ', H', J, rv, q⟩ := hs
    exact ⟨v, H', J.os, J.bare, J.base, J.hok, rv, q⟩
variable {X : Cx} {pins : List (Addr × Obj)} {σ : L2.St} {H : Hp} {s s' : Shared} {i : Nat} {y : Str} {c : Addr} {z : V}
theorem cell_at (I : Inv X pins σ H s) (hy : X.N[i]? = some y) (hk : X.env.scope.names.lookup y = some .cell) (hc : X.env.cells.lookup y = some c) (hz : σ[i]? = some (some z)) : ∃ u, RelV z u ∧ s.heap.IsCell c (some u) := by
  obtain ⟨m, _, hl⟩ := I.loc
  obtain ⟨u, r, l⟩ := hl i y z hy hz (.inr (.inl hk))
  rcases l with ⟨l1, _⟩ | ⟨_, c2, l2, l3⟩
  · have l1 : X.env.scope.names.lookup y = some .local := l1
    rw [hk] at l1
    cases l1
  · rw [hc] at l2
    cases l2
    exact ⟨u, r, l3⟩
theorem env0C (I : Inv X pins σ H s) (hfn : X.fn y = true) (hy : X.N[i]? = some y) (hk : X.env.scope.names.lookup y = some .cell) (hc : X.env.cells.lookup y = some c) (hz : σ[i]? = some (some z)) : Env0 X.prog X.w X.K X.mg X.base X.A X.stack s (upd H c (CellO c z)) := by
  have hge := I.ok.cab y c hfn hc
  obtain ⟨u, ru, hcell⟩ := cell_at I hy hk hc hz
  have nb : ∀ {b : Addr} {o : Obj}, X.s_0.heap.get? b = some o → b ≠ c := fun e z => Nat.lt_irrefl _ (Nat.lt_of_lt_of_le (by rw [← z]; exact Heap.lt_size e) hge)
  refine ⟨I.ok.frames, I.ok.mod, fun b o e => ⟨(I.bs b o e).1, ?_⟩, Nat.le_trans I.ok.bsz I.sz, I.stack, fun b hb => ?_, I.hok.laidN (fun _ _ e => e) (I.freeC y c hc) (cellO_ok ru hcell), I.bare⟩
  · rw [upd_ne (nb (I.ok.bs b o e).1)]
    exact (I.bs b o e).2
  · have hbc : b ≠ c := by
      rcases List.mem_cons.mp (I.stkSub b hb) with e | hb
      · rw [e]
        exact Ne.symm (I.cne y c hc)
      · obtain ⟨_, o, ho, _⟩ := I.ok.funs.mem hb
        exact nb ho
    rw [upd_ne hbc]
    exact I.stkFree b hb
theorem afterC {Q : VK} {u : Value} (hN : X.N.Nodup) (hfn : X.fn y = true) (I : Inv X pins σ H s) (hy : X.N[i]? = some y) (hk : X.env.scope.names.lookup y = some .cell) (hc : X.env.cells.lookup y = some c) (hz : σ[i]? = some (some z))
    (h : CE X.stack X.prog X.w (upd H c (CellO c z)) s (fun v H' => H' c = some (CellO c z) ∧ Q v (cutA H' [c])) u s') : EP X pins σ Q u s' := by
  obtain ⟨v, H1, os, bare, un, hok, r, hcc, q⟩ := h
  have hge := I.ok.cab y c hfn hc
  obtain ⟨⟨u', ru', hcell'⟩, _, _⟩ := hok c _ hcc
  obtain ⟨u0, ru0, hcell0⟩ := cell_at I hy hk hc hz
  have nb : ∀ {b : Addr} {o : Obj}, X.s_0.heap.get? b = some o → b ≠ c := fun e z => Nat.lt_irrefl _ (Nat.lt_of_lt_of_le (by rw [← z]; exact Heap.lt_size e) hge)
  have nL : ∀ {b : Addr} {o : Obj}, X.s_0.heap.get? b = some o → b ≠ X.env.locals := fun e => Nat.ne_of_lt (Nat.lt_of_lt_of_le (Heap.lt_size e) I.ok.above)
  have un0 : ∀ {b : Addr}, b ≠ c → H b = none → upd H c (CellO c z) b = none := fun h n => by rw [upd_ne h]; exact n
  have cn : ∀ {b : Addr}, H1 b = none → cutA H1 [c] b = none := fun {b} e => by
    unfold cutA
    split
    · rfl
    · exact e
  have ck : ∀ {b : Addr}, b ≠ c → cutA H1 [c] b = H1 b := fun {b} h => by
    unfold cutA
    rw [if_neg (fun m => h (List.mem_singleton.mp m))]
  have kp : ∀ {b : Addr} {o : HO}, H b = some o → upd H c (CellO c z) b = some o := fun e => by
    rw [upd_ne (ne_of_none e (I.freeC y c hc))]
    exact e
  have kc : ∀ {b : Addr} {o : HO}, H b = some o → b ≠ c := fun e => ne_of_none e (I.freeC y c hc)
  obtain ⟨m, ⟨oL, es, ep, hoL, rL⟩, hl⟩ := id I.loc
  have hLc : X.env.locals ≠ c := Ne.symm (I.cne y c hc)
  obtain ⟨sl, hL⟩ := un.any hoL (un0 hLc I.free) (by simp)
  have cellK : ∀ x c2, X.env.cells.lookup x = some c2 → c2 ≠ c → ∀ v, s.heap.IsCell c2 v → s'.heap.IsCell c2 v := fun x c2 e hne v ⟨o, ho, hd⟩ => by
    obtain ⟨sl2, q2⟩ := un.any ho (un0 hne (I.freeC x c2 e)) (by simp)
    exact ⟨_, q2, hd⟩
  refine ⟨v, cutA H1 [c], ⟨I.ok, os.trans I.os, bare, ⟨fun b o e n hb hx => ?_, fun b o e n hb hx => ?_, fun b o e n hx => ?_, fun b o e hx => ?_, fun b xs e => ?_, fun b o xs e => ?_, fun b ps e => ?_⟩, ⟨m, ⟨_, es, ep, hL, rL⟩, fun j x v' e1 e2 e3 => ?_⟩, fun x c2 e => ?_, ?_, fun x c2 e => ?_, fun p hp => ?_, fun b o e => ?_, I.len⟩, r, q⟩
  · refine un.keep b o (I.base.keep b o e n hb hx) (un0 (nb e) (I.base.free b o e n hx)) (fun m => ?_) (by simp)
    rcases List.mem_cons.mp (I.stkSub b m) with z | z
    · exact nL e z
    · exact hb z
  · obtain ⟨sl1, q1⟩ := I.base.slot b o e n hb hx
    obtain ⟨sl2, q2⟩ := un.any q1 (un0 (nb e) (I.base.free b o e n hx)) (by simp)
    exact ⟨sl2, q2⟩
  · obtain ⟨o', e1⟩ := I.base.there b o e hx
    exact cn (un.free b o' e1 (un0 (nb e) (I.base.free b o e n hx)) (by simp))
  · obtain ⟨o', e1⟩ := I.base.there b o e hx
    exact un.there b o' e1 (by simp)
  · have e1 := I.base.tups b xs e
    rw [ck (kc e1)]
    exact un.tups b xs (kp e1)
  · have e1 := I.base.frzs b o xs e
    rw [ck (kc e1)]
    exact un.frzs b o xs (kp e1)
  · obtain ⟨m1, e1⟩ := I.base.tbls b ps e
    obtain ⟨m2, e2⟩ := un.tbls b _ (kp e1)
    rw [ck (kc e1)]
    exact ⟨m1 ++ m2, by rw [e2, Array.append_assoc]⟩
  · obtain ⟨w2, rw2, l⟩ := hl j x v' e1 e2 e3
    rcases l with l | ⟨k, c2, e, hz2⟩
    · exact ⟨w2, rw2, .inl l⟩
    · by_cases hcc2 : c2 = c
      · subst hcc2
        have exy : x = y := I.ok.inj x y c2 e hc
        subst exy
        have eij : j = i := (List.getElem?_inj (List.getElem?_eq_some_iff.mp e1).1 hN).mp (e1.trans hy.symm)
        subst eij
        rw [hz] at e2
        cases e2
        exact ⟨u', ru', .inr ⟨k, c2, e, hcell'⟩⟩
      · exact ⟨w2, rw2, .inr ⟨k, c2, e, cellK x c2 e hcc2 _ hz2⟩⟩
  · by_cases hcc2 : c2 = c
    · rw [hcc2]
      exact ⟨_, hcell'⟩
    · obtain ⟨v2, z2⟩ := I.cell x c2 e
      exact ⟨v2, cellK x c2 e hcc2 v2 z2⟩
  · exact cn (un.free _ oL hoL (un0 hLc I.free) (by simp))
  · by_cases hcc2 : c2 = c
    · rw [hcc2]
      unfold cutA
      rw [if_pos (List.mem_singleton.mpr rfl)]
    · obtain ⟨v2, o, ho, hd⟩ := I.cell x c2 e
      exact cn (un.free c2 o ho (un0 hcc2 (I.freeC x c2 e)) (by simp))
  · obtain ⟨e, n, ne, nf, d⟩ := I.pin p hp
    have hpc : p.1 ≠ c := fun hh => by
      obtain ⟨o, ho, hd⟩ := hcell0
      rw [hh, ho] at e
      cases e
      exact d _ hd
    refine ⟨un.keep p.1 p.2 e (un0 hpc n) (fun m => ?_) (by simp), cn (un.free p.1 p.2 e (un0 hpc n) (by simp)), ne, nf, d⟩
    rcases List.mem_cons.mp (I.stkSub p.1 m) with z | z
    · exact ne z
    · exact nf z
  · have hbc : b ≠ c := fun hh => by
      rw [hh] at e
      unfold cutA at e
      rw [if_pos (List.mem_singleton.mpr rfl)] at e
      cases e
    rw [ck hbc] at e
    refine (hok b o e).stay (fun _ _ _ z => z) (fun d hd => ?_) fun d xs hd => ?_
    · rw [ck (fun z => by rw [z, hcc] at hd; cases hd)]
      exact hd
    · rw [ck (fun z => by rw [z, hcc] at hd; cases hd)]
      exact hd
/-- o.m(..), a cell of the frame shown to it -/
def mtC (P : Program) (w : World) (K : PySem.W.Frag) (mg : Str → Option Value) (base : Heap) (CX : CXT) (N : List Str) (sc : Scope) (cells : List (Str × Addr)) (n : Nat) (m : Str) (σ : L2.St) (t : TA) (Q : VK) : V → Hp → Prop := fun x H1 => ∃ a C dx fs sp, x = .ref a ∧ H1 a = some (.ins C dx fs) ∧ fs.lookup m = none ∧
  MO P w K mg base CX n C m sp ∧ t σ H1 fun vs H2 => ∃ (i : Nat) (y : Str) (c : Addr) (z : V), N[i]? = some y ∧ sc.names.lookup y = some .cell ∧ cells.lookup y = some c ∧ σ[i]? = some (some z) ∧ (H2 c = none → sp (x :: vs) (upd H2 c (CellO c z)) (fun v H' => H' c = some (CellO c z) ∧ Q v (cutA H' [c])) E0)
def tMethC (P : Program) (w : World) (K : PySem.W.Frag) (mg : Str → Option Value) (base : Heap) (CX : CXT) (N : List Str) (sc : Scope) (cells : List (Str × Addr)) (n : Nat) (m : Str) (ta : TE) (t : TA) : TE := fun σ H Q => ta σ H (mtC P w K mg base CX N sc cells n m σ t Q)
theorem pe_methDC {k : Nat} {m : Str} {pos apos : Pos} {e o : Expr} {es : List Expr} {ta : TE} {t : TA} {pl : Sem Bool} (hN : X.N.Nodup) (hfn : ∀ y, X.fn y = true) (he : PE X o ta) (hr : Room k X.A) (ha : PA X (e :: es) t)
    (hst : starEach (e :: es) X.env = (false, eval e X.env) :: starEach es X.env := by rfl) (hpl : (backTo pos (starEach es X.env)).any (·.1) = false := by rfl)
    (ht : eval (.Call (.Attribute o m apos) (e :: es) [] pos) X.env = (do
      let ov ← eval o X.env
      standAt apos.atName
      let (f, first) ← holding [ov] (getMethod ov m pl)
      callWith pos f first (backTo pos (starEach (e :: es) X.env)) (backToKw pos (keywordEach [] X.env))) := by rfl) :
    PE X (.Call (.Attribute o m apos) (e :: es) [] pos) (tMethC X.prog X.w X.K X.mg X.base (L2.CX X.prog X.w) X.N X.env.scope X.env.cells k m ta t) := by
  refine ⟨fun pins s σ H Q I h => ?_⟩
  refine PySem.W.methodCall_KW (pl := pl) (thn (he.run pins s σ H _ I h) fun u s1 ⟨x, H1, I1, rx, a, C, dx, fs, sp, ex, ea, l, mo, q⟩ => ?_) ht
  subst ex
  obtain rfl : u = Value.ref a := rx
  obtain ⟨f, fd, ps, c, hm, F, hb⟩ := mo.ex
  refine getmeth_ok I1 ea c hm l ?_
  refine PySem.W.callWith_K (first := [.ref a]) (h₀ := X.base) I.ok.mod.kin hm.kp (thn (ha.run pos pins s1 σ H1 _ I1 q) fun us s2 ⟨vs, H2, I2, r, i, y, cc, z, h1, h2, h3, h4, q2⟩ => ⟨I2.kIn, ?_⟩) hst hpl
  have q2 := q2 (I2.freeC y cc h3)
  have r2 : Vals (V.ref a :: vs) (Value.ref a :: us) := .cons rfl r
  have hl : (Value.ref a :: us).length = ps.length := by rw [← r2.length]; exact F.len _ _ _ _ q2
  have b := hb s2 (Value.ref a :: us) I2.kIn (by rw [List.append_nil]; exact hl)
  rw [List.append_nil] at b
  refine wpAny_call (codeAny_mono (F.run X.A X.stack s2 _ ⟨Value.ref a :: us, []⟩ (Value.ref a :: us) (V.ref a :: vs) _ E0 hr (env0C I2 (hfn y) h1 h2 h3 h4) b r2 q2) fun r s' hq => ?_)
  cases r with
  | error e =>
    obtain ⟨_, _, _, _, _, _, _, _, _, _, _, _, z⟩ := hq
    exact z.elim
  | ok fl =>
    cases fl with
    | ret u => exact afterC hN (hfn y) I2 h1 h2 h3 h4 hq
    | next => exact False.elim hq
    | brk => exact False.elim hq
    | cont => exact False.elim hq
theorem x_methC {P : Program} {w : World} {K : PySem.W.Frag} {mg : Str → Option Value} {base : Heap} {CX : CXT} {N : List Str} {sc : Scope} {cells : List (Str × Addr)} {n : Nat} {m : Str} {te : TE} {t : TA} {Q : VK} (h : te σ H (mtC P w K mg base CX N sc cells n m σ t Q)) : tMethC P w K mg base CX N sc cells n m te t σ H Q := h
theorem x_mtC {P : Program} {w : World} {K : PySem.W.Frag} {mg : Str → Option Value} {base : Heap} {CX : CXT} {N : List Str} {sc : Scope} {cells : List (Str × Addr)} {n : Nat} {m : Str} {t : TA} {Q : VK} {a C dx : Addr} {fs : List (Str × V)} {sp : Sp} (ho : H a = some (.ins C dx fs)) (hm : MO P w K mg base CX n C m sp) (hl : fs.lookup m = none)
    (h : t σ H fun vs H2 => ∃ (i : Nat) (y : Str) (c : Addr) (z : V), N[i]? = some y ∧ sc.names.lookup y = some .cell ∧ cells.lookup y = some c ∧ σ[i]? = some (some z) ∧ (H2 c = none → sp (.ref a :: vs) (upd H2 c (CellO c z)) (fun v H' => H' c = some (CellO c z) ∧ Q v (cutA H' [c])) E0)) : mtC P w K mg base CX N sc cells n m σ t Q (.ref a) H := ⟨a, C, dx, fs, sp, rfl, ho, hl, hm, h⟩
end
local macro_rules | `(tactic| walk_at "u") => `(tactic| with_reducible refine x_methC ?_)
/-! ### zip of a tuple and a list -/
section
open PySem PySem.Spec PyProof.Rows L2 Kit
/-- the tuple at a and the list at b, the items in new pairs -/
def ItzM (K : PySem.W.Frag) (a b : Addr) : It :=
  ⟨fun i H => ∃ (xs ys : List V) (x y : V), SqT K H a xs ∧ SqL K H b ys ∧ xs[i]? = some x ∧ ys[i]? = some y,
    fun i H v H' => ∃ T x y, v = .ref T ∧ H T = none ∧ H' = upd H T (.tup [x, y]) ∧ (∀ xs, SqT K H a xs → xs[i]? = some x) ∧ ∀ ys, SqL K H b ys → ys[i]? = some y,
    fun i H => ∃ xs ys : List V, SqT K H a xs ∧ SqL K H b ys ∧ i ≤ xs.length ∧ i ≤ ys.length ∧ (i = xs.length ∨ i = ys.length)⟩
/-- what a walk over both is like -/
def stM (z TI TO i1 i2 a b : Addr) (i : Nat) (h : Heap) : Prop := IsZip h z TI TO .none ∧ IsTupOf2 h TI (.ref i1) (.ref i2) ∧ (∃ x y, IsTupOf2 h TO x y) ∧ h.IsTupleIter i1 a i ∧ h.IsListIter i2 b i
theorem sepM {z TI TO i1 i2 a b : Addr} (D : ZipApart z TI TO i1 i2 a b) : ZipSep2 z TI TO i1 i2 [i1, a] [i2, b] where
  TIz := D.TIz
  TOz := D.TOz
  TITO := D.TITO
  TIi1 := D.TIi1
  mem1 := List.mem_cons_self
  zf1 := by simp [D.i1z.symm, D.l1z.symm]
  Tf1 := by simp [D.TOi1, D.l1TO.symm]
  TIi2 := D.TIi2
  mem2 := List.mem_cons_self
  zf2 := by simp [D.i2z.symm, D.l2z.symm]
  Tf2 := by simp [D.TOi2, D.l2TO.symm]
  sep1_2 := by simp [D.i12, D.l2i1.symm]
  sep2_1 := by simp [D.i12.symm, D.l1i2.symm]
theorem turn_zipM {P : Program} {w : World} {K : PySem.W.Frag} {elts : List Expr} {kk : Nat} {tpos : Pos} {a b z TI TO i1 i2 : Addr} (D : ZipApart z TI TO i1 i2 a b) :
    Turn P w K (.Tuple elts kk tpos) (ItzM K a b) [z, TI, TO, i1, i2] z (stM z TI TO i1 i2 a b) where
  mem := List.mem_cons_self
  obj := fun i h ⟨hz, hTI, ⟨x, y, hTO⟩, ⟨o1, e1, _, d1⟩, ⟨o2, e2, _, d2⟩⟩ c hc => by
    simp only [List.mem_cons, List.not_mem_nil, or_false] at hc
    rcases hc with rfl | rfl | rfl | rfl | rfl
    · exact ⟨_, hz, fun v q => nomatch q⟩
    · exact ⟨_, hTI, fun v q => nomatch q⟩
    · exact ⟨_, hTO, fun v q => nomatch q⟩
    · exact ⟨o1, e1, fun v q => by rw [d1] at q; cases q⟩
    · exact ⟨o2, e2, fun v q => by rw [d2] at q; cases q⟩
  keep := fun i h h' ⟨hz, hTI, ⟨x, y, hTO⟩, h1, h2⟩ k => ⟨k z (by simp) _ hz, k TI (by simp) _ hTI, ⟨x, y, k TO (by simp) _ hTO⟩, h1.at fun o q => k i1 (by simp) o q, h2.at fun o q => k i2 (by simp) o q⟩
  item := fun X hP hw hK hc i pins s σ H E I hf ⟨hz, hTI, ⟨x0, y0, hTO⟩, h1, h2⟩ ⟨xs, ys, x, y, hqx, hqy, hx, hy⟩ => by
    subst hP hw hK
    obtain ⟨its, rv, p, _⟩ := I.tuple hqx
    obtain ⟨its2, rv2, p2, _⟩ := I.list hqy
    have l1 : i < its.toArray.size := by rw [List.size_toArray, ← rv.length]; exact (List.getElem?_eq_some_iff.mp hx).1
    have l2 : i < its2.toArray.size := by rw [List.size_toArray, ← rv2.length]; exact (List.getElem?_eq_some_iff.mp hy).1
    have hzl : z < s.heap.objs.size := Heap.lt_size hz
    have hd : X.A.in1.handled = none := I.ok.hd hc
    refine wpAny_pyNext_zipD2_item (sepM D) (Draws.tuple hd i1 a D.l1i1 its.toArray) (Draws.list hd i2 b D.l2i2 its2.toArray) hz hTI hTO ⟨h1, p⟩ ⟨h2, p2.isList⟩ l1 l2 fun u1 u2 h' tk e1 e2 hz' hTO' st1 st2 hT _ hk => ?_
    obtain ⟨u, hu, ru⟩ := rv.get hx
    obtain ⟨v, hv, rv'⟩ := rv2.get hy
    have eu : u1 = u := by
      have e1 : its.toArray[i]? = some u1 := e1
      rw [List.getElem?_toArray, hu] at e1
      exact (Option.some.inj e1).symm
    have ev : u2 = v := by
      have e2 : its2.toArray[i]? = some u2 := e2
      rw [List.getElem?_toArray, hv] at e2
      exact (Option.some.inj e2).symm
    subst eu ev
    refine ⟨_, rfl, wpAny_letOwnedTupleGo_zip (s := { s with heap := h', toks := tk }) hz' fun h'' hz'' sb => ?_⟩
    have up : ∀ {c : Addr} {o : Obj}, c ≠ z → h'.get? c = some o → h''.get? c = some o := fun {c o} n e => (sb.2 c n).trans e
    have hT2 : h''.get? s.heap.objs.size = some { cls := .type "tuple", data := .seq #[u1, u2] } := up (Nat.ne_of_gt hzl) hT
    have new : ObjOk X.prog X.w (upd H s.heap.objs.size (.tup [x, y])) h'' s.heap.objs.size (.tup [x, y]) :=
      ⟨by show 2 ≤ sizeLine; decide, [u1, u2], .cons ru (.cons rv' .nil), ⟨_, hT2, rfl, _, rfl⟩⟩
    have I1 : Inv X pins σ (upd H s.heap.objs.size (.tup [x, y])) { s with heap := h'', toks := tk } :=
      I.turnedNew (t' := tk) (ch := [z, TI, TO, i1, i2]) (fun c o hb q => by
        simp only [List.mem_cons, List.not_mem_nil, or_false, not_or] at hb
        obtain ⟨n1, n2, n3, n4, n5⟩ := hb
        exact up n1 (hk c o n1 n3 n4 n5 q)) hf (Nat.le_refl _) new
    refine ⟨.ref s.heap.objs.size, _, I1, rfl, ⟨_, x, y, rfl, I.hok.fresh (Nat.le_refl _), rfl, fun l hl => by rw [I.tuple_inj hl hqx]; exact hx, fun l hl => by rw [I.list_inj hl hqy]; exact hy⟩, ⟨hz'', up D.TIz (hk _ _ D.TIz D.TITO D.TIi1 D.TIi2 hTI), ⟨u1, u2, up D.TOz hTO'⟩, st1.1.at fun o q => up D.i1z q, st2.1.at fun o q => up D.i2z q⟩, fun c hcm => ?_⟩
    have hn := (hf c hcm).1
    have hlt : c ≠ s.heap.objs.size := fun e => by
      simp only [List.mem_cons, List.not_mem_nil, or_false] at hcm
      have : c < s.heap.objs.size := by
        rcases hcm with rfl | rfl | rfl | rfl | rfl
        · exact hzl
        · exact Heap.lt_size hTI
        · exact Heap.lt_size hTO
        · obtain ⟨_, e1, _⟩ := h1; exact Heap.lt_size e1
        · obtain ⟨_, e2, _⟩ := h2; exact Heap.lt_size e2
      rw [e] at this
      exact Nat.lt_irrefl _ this
    rw [upd_ne hlt]
    exact hn
  done := fun X hP hw hK hc i pins s σ H E I hf ⟨hz, hTI, ⟨x0, y0, hTO⟩, h1, h2⟩ ⟨xs, ys, hqx, hqy, l1, l2, hend⟩ => by
    subst hP hw hK
    obtain ⟨its, rv, p, _⟩ := I.tuple hqx
    obtain ⟨its2, rv2, p2, _⟩ := I.list hqy
    have e1 : its.toArray.size = xs.length := by rw [List.size_toArray, ← rv.length]
    have e2 : its2.toArray.size = ys.length := by rw [List.size_toArray, ← rv2.length]
    have hd : X.A.in1.handled = none := I.ok.hd hc
    refine wpAny_pyNext_zipD2_end (sepM D) (Draws.tuple hd i1 a D.l1i1 its.toArray) (Draws.list hd i2 b D.l2i2 its2.toArray) hz hTI hTO ⟨h1, p⟩ ⟨h2, p2.isList⟩ (by omega) (by omega) (by omega) fun h' tk hk => ⟨rfl, I.turnedL (t' := tk) (ch := [z, TI, TO, i1, i2]) (fun c o hb q => ?_) hf⟩
    simp only [List.mem_cons, List.not_mem_nil, or_false, not_or] at hb
    obtain ⟨n1, n2, n3, n4, n5⟩ := hb
    exact hk c o n1 n3 n4 n5 q
  self := fun A i s Q E st h => wpAny_pyIter_zip st.1 h
def iZipM (K : PySem.W.Frag) (ta : TA) : TI := fun σ H R => ta σ H fun vs H1 => ∃ a b xs ys, vs = [.ref a, .ref b] ∧ SqT K H1 a xs ∧ SqL K H1 b ys ∧ R (ItzM K a b) H1
theorem pi_zipM {X : Cx} {e e2 : Expr} {ta : TA} {p pos tpos : Pos} {elts : List Expr} {kk : Nat} (hg : Gl X "zip") (hm : X.mg "zip" = none) (ha : PA X [e, e2] ta)
    (hs : starEach [e, e2] X.env = (false, eval e X.env) :: starEach [e2] X.env := by rfl) (hpl : (backTo pos (starEach [e2] X.env)).any (·.1) = false := by rfl) :
    PI X (.Tuple elts kk tpos) (.Call (.Name "zip" p) [e, e2] [] pos) (iZipM X.K ta) := by
  refine ⟨fun pins s σ H R I h => ?_⟩
  refine Call_ (ld_blt I hg hm PyProof.Rows.boot_zip (PyProof.Rows.callWith_type1 (thn (ha.run pos pins s σ H _ I h) fun us s1 ⟨vs, H1, I1, r1, a, b, xs, ys, ex, hqx, hqy, q⟩ => ?_) hs hpl))
  subst ex
  obtain ⟨u, us', rfl⟩ : ∃ u us', us = u :: us' := by cases r1; exact ⟨_, _, rfl⟩
  obtain ⟨v, us'', rfl⟩ : ∃ u us'', us' = u :: us'' := by cases r1 with | cons _ r2 => cases r2; exact ⟨_, _, rfl⟩
  cases r1 with
  | cons ru r2 =>
    cases r2 with
    | cons rv r3 =>
      cases r3
      cases ru
      cases rv
      obtain ⟨its, rw1, p1, _⟩ := I1.tuple hqx
      obtain ⟨its2, rw2, p2, _⟩ := I1.list hqy
      have la : a < s1.heap.objs.size := p1.lt
      have lb : b < s1.heap.objs.size := p2.lt
      refine zip_begins2 (begins_tuple a its.toArray) (begins_list b its2.toArray) p1 p2.isList fun h' hz hTI hTO g1 g2 hsz hk => wpAny_pyIter_zip hz ?_
      have I2 : Inv X pins σ H1 { s1 with heap := h' } := I1.kept (t' := s1.toks) hk
      refine ⟨s1.heap.objs.size + 4, [s1.heap.objs.size + 4, s1.heap.objs.size + 2, s1.heap.objs.size + 3, s1.heap.objs.size, s1.heap.objs.size + 1], _, _, H1, rfl, I2, turn_zipM (PySem.W.ktu_apart s1.heap.objs.size a b la lb), ⟨hz, hTI, ⟨_, _, hTO⟩, ⟨_, g1, rfl, rfl⟩, ⟨_, g2, rfl, rfl⟩⟩, fun c hcm => ?_, q⟩
      have hle : s1.heap.objs.size ≤ c := by
        simp only [List.mem_cons, List.not_mem_nil, or_false] at hcm
        rcases hcm with z | z | z | z | z <;> rw [z] <;> first | exact Nat.le_add_right _ _ | exact Nat.le_refl _
      exact I1.fpOk hle (I1.hok.fresh hle)
theorem walk_zipM {K : PySem.W.Frag} {a b : Addr} {xs ys : List V} {n : Nat} (hn : n = min xs.length ys.length) : Walk (ItzM K a b) n (fun H => SqT K H a xs ∧ SqL K H b ys) (YPair (fun i => xs[i]?) (fun i => ys[i]?)) := by
  subst hn
  refine ⟨fun i _ hi q => ?_, fun _ q => ⟨xs, ys, q.1, q.2, by omega, by omega, by omega⟩, fun i H v H' _ q y => ?_⟩
  · have h1 : i < xs.length := by omega
    have h2 : i < ys.length := by omega
    exact ⟨xs, ys, xs[i], ys[i], q.1, q.2, by simp [h1], by simp [h2]⟩
  · obtain ⟨T, x, z, h1, h2, h3, h4, h5⟩ := y
    exact ⟨T, x, z, h1, h2, h3, h4 xs q.1, h5 ys q.2⟩
variable {K : PySem.W.Frag} {σ : L2.St} {H : Hp} {g : TG} {tt : TT} {te tl : TE} {vs : List Nat} {a b : Addr} {Q : VK} {xs ys : List V} {ta : TA}
def lcZM (K : PySem.W.Frag) (g : TG) (tt : TT) (te : TE) (vs : List Nat) (σ : L2.St) (Q : VK) : List V → Hp → Prop := fun ws H1 => ∃ a b xs ys, ws = [.ref a, .ref b] ∧ SqT K H1 a xs ∧ SqL K H1 b ys ∧ lcK (ItzM K a b) g tt te vs σ Q H1
theorem x_lcZM (h : ta σ H (lcZM K g tt te vs σ Q)) : tLc (iZipM K ta) g tt te vs σ H Q := h
theorem x_lcZMK (hq : H a = some (.tup xs)) (hq2 : SqL K H b ys) (hxy : xs.length = ys.length) (A : Nat → List V → Hp → Prop) (hA : ∀ i acc H H', TupS H H' → A i acc H → A i acc H') (hn : xs.length < sizeLine) (h0 : A 0 [] H)
    (hs : ∀ i x y t acc H', xs[i]? = some x → ys[i]? = some y → Same H H' → H' t = some (.tup [x, y]) → A i acc H' → LcTurn g tt te vs σ A i (.ref t) acc H')
    (hd : ∀ p acc H', H p = none → Same H H' → H' p = some (.lst acc) → A xs.length acc H' → Q (.ref p) H') : lcZM K g tt te vs σ Q [.ref a, .ref b] H := by
  refine ⟨a, b, xs, ys, rfl, SqT.of hq, hq2, fun Dr hD => ?_⟩
  refine lc_it (walk_zipM (K := K) (a := a) (b := b) (xs := xs) (ys := ys) (n := xs.length) (by omega)) (fun i H' => ∃ acc, H' Dr = some (.lst acc) ∧ acc.length ≤ i ∧ Same H H' ∧ A i acc H') ⟨[], upd_same, Nat.le_refl _, same_upd hD, hA _ _ _ _ (TupS.of (same_upd hD)) h0⟩ (fun i H' _ ⟨_, _, _, s, _⟩ => ⟨SqT.of (s _ _ hq), s.seq hq2⟩) ?_ ?_
  · rintro i x H' H'' hi ⟨acc, h1, h2, h3, h4⟩ hy
    obtain ⟨t, u, v, rfl, ht, rfl, e1, e2⟩ := hy
    have st : Same H' (upd H' t (.tup [u, v])) := same_upd ht
    refine hs i u v t acc _ e1 e2 (h3.trans st) upd_same (hA _ _ _ _ (TupS.of st) h4) _ _ (fun y H4 s4 a4 => ?_) (fun H3 s3 a3 => ⟨acc, s3 _ _ (st _ _ h1), Nat.le_succ_of_le h2, (h3.trans st).trans s3, a3⟩)
    have e4 := s4 _ _ (st _ _ h1)
    refine ⟨acc, e4, by omega, acc ++ [y], upd_same, by rw [List.length_append]; exact Nat.add_le_add h2 (Nat.le_refl _), fun b o e => ?_, hA _ _ _ _ (TupS.upd e4 (fun _ z => by cases z)) a4⟩
    rw [upd_ne (ne_of_none e hD)]
    exact s4 _ _ (st _ _ (h3 _ _ e))
  · rintro H' ⟨acc, h1, h2, h3, h4⟩
    exact hd Dr acc H' hD h3 h1 h4
end
local macro_rules | `(tactic| walk_at "u") => `(tactic| with_reducible refine x_lcZM ?_)
/-! ### a sum of four fields, each with its factor -/
def wtF (fs : List Int) (t : Tal) : Int := t.b * fs.getD 0 0 + t.l * fs.getD 1 0 + t.c * fs.getD 2 0 + t.o * fs.getD 3 0
def FOk (fs : List Int) : Prop := fs.length = 4 ∧ ∀ x ∈ fs, -(10 ^ 30) ≤ x ∧ x ≤ 10 ^ 30
def spSum (K : PySem.W.Frag) : Sp := fun vs H Q _ => ∃ (v : V) (q : Addr) (t : Tal) (fs : List Int) (pages now : Int), vs = [v, .ref q] ∧ TalAt H v t ∧ TOk pages now t ∧ PN pages now ∧ H q = some (.lst (fs.map V.int)) ∧ FOk fs ∧ ∀ H', Same H H' → Q (.int (wtF fs t)) H'
theorem ok_sum (T : Txt K mg) : FO P w K mg base 1 T.a__law_sum T.fd__law_sum ["_law_tally", "_law_factors_here"] (spSum K) := by
  have sc := sc__law_sum
  refine T.F__law_sum.okX sc (fun vs H Q E h => ?_) (fun cdv A outer s H vs Q E hr h => ?_)
  · obtain ⟨_, _, _, _, _, _, rfl, _⟩ := h
    rfl
  obtain ⟨v, p, t, fs, pages, now, rfl, ⟨b, rfl, hb⟩, ⟨o7, o8, o1, o2, o5, o6, o3, o4⟩, ⟨hp1, hp2, hp3, hp4⟩, hf, ⟨hl, hfb⟩, q⟩ := h
  refine ⟨_, (pss_one (ps_ret (pe_callB (cr_usum) (by rfl) T.b_sum bt_sum (pa_cons (pe_lc (own := [("_law_field", 2), ("_law_factor", 3)]) (by rfl) sc.nd (pi_zipM (by rfl) T.b_zip (pa_cons (pv 0) (pa_cons (pv 1) pa_nil))) (blkOk_by (own := [("_law_field", 2), ("_law_factor", 3)]) (N := N__law_sum) (sc := defScope s__law_sum) (by decide +kernel)) (fun _ _ _ _ _ => (K_gtup (K := K) (n := 2) (by rfl) (pgs_cons (pg_name (i := 2) sc.nd rfl (by first | exact Or.inl rfl | exact Or.inr rfl)) (pgs_cons (pg_name (i := 3) sc.nd rfl (by first | exact Or.inl rfl | exact Or.inr rfl)) pgs_nil)))) (fun _ _ _ _ _ => pts_nil) (fun _ _ _ _ _ => (pe_op op_uMul (pv 2) (pv 3)))) pa_nil)))), ?_⟩
  unfold Tal.vs at hb
  obtain ⟨f0, f1, f2, f3, rfl⟩ : ∃ f0 f1 f2 f3, fs = [f0, f1, f2, f3] := by
    match fs, hl with
    | [f0, f1, f2, f3], _ => exact ⟨f0, f1, f2, f3, rfl⟩
  walk_at "begin"
  walk_at "go"
  refine x_lcZMK hb (SqL.of hf) rfl (fun i acc H' => acc = ([t.b * f0, t.l * f1, t.c * f2, t.o * f3].take i).map V.int) (fun i acc H H' _ h => h) (small64 (by show 4 ≤ 1000; decide)) rfl ?_ ?_
  · intro i x y tt acc H' hx hy hs' htt hacc NY NN hY hN
    dsimp only [wipe]
    refine x_gtup2 (SqT.of htt) ?_
    dsimp only [List.set]
    refine ⟨rfl, ?_⟩
    have key : ∃ m n : Int, x = .int m ∧ y = .int n ∧ m.natAbs < 2 ^ 250 ∧ n.natAbs < 2 ^ 250 ∧ (List.map V.int ([t.b * f0, t.l * f1, t.c * f2, t.o * f3].take i)) ++ [V.int (m * n)] = List.map V.int ([t.b * f0, t.l * f1, t.c * f2, t.o * f3].take (i + 1)) := by
      have hi := (List.getElem?_eq_some_iff.mp hx).1
      have b0 := hfb f0 (by simp)
      have b1 := hfb f1 (by simp)
      have b2 := hfb f2 (by simp)
      have b3 := hfb f3 (by simp)
      match i, hx, hy with
      | 0, hx, hy =>
        cases hx
        cases hy
        exact ⟨t.b, f0, rfl, rfl, by omega, by omega, rfl⟩
      | 1, hx, hy =>
        cases hx
        cases hy
        exact ⟨t.l, f1, rfl, rfl, by omega, by omega, rfl⟩
      | 2, hx, hy =>
        cases hx
        cases hy
        exact ⟨t.c, f2, rfl, rfl, by omega, by omega, rfl⟩
      | 3, hx, hy =>
        cases hx
        cases hy
        exact ⟨t.o, f3, rfl, rfl, by omega, by omega, rfl⟩
      | i + 4, hx, hy => simp at hx
    obtain ⟨m, n, rfl, rfl, hm, hn, e⟩ := key
    walk_at "go"
    refine hY _ _ (fun _ _ h => h) ?_
    rw [hacc]
    exact e
  intro r acc H1 hr1 hs1 hn1 hacc
  walk_at "go"
  refine ⟨r, [t.b * f0, t.l * f1, t.c * f2, t.o * f3], rfl, SqL.of (by rw [hn1, hacc]; rfl), ?_⟩
  have e : [t.b * f0, t.l * f1, t.c * f2, t.o * f3].sum = wtF [f0, f1, f2, f3] t := by
    show t.b * f0 + (t.l * f1 + (t.c * f2 + (t.o * f3 + 0))) = t.b * f0 + t.l * f1 + t.c * f2 + t.o * f3
    omega
  rw [e]
  exact q H1 hs1
def spFactors (K : PySem.W.Frag) : Sp := fun vs H Q _ => ∃ (a : Addr) (ns : List Int) (st : Int), vs = [.ref a, .int st] ∧ SqL K H a (ns.map V.int) ∧ 0 ≤ st ∧ ∀ (p : Addr) (fs : List Int) (H' : Hp), Same H H' → H p = none → H' p = some (.lst (fs.map V.int)) → FOk fs → Q (.ref p) H'
theorem ok_factors (T : Txt K mg) : FO P w K mg base 2 T.a__law_factors T.fd__law_factors ["_law_script", "_law_start"] (spFactors K) := by
  have sc := sc__law_factors
  refine T.F__law_factors.okX sc (fun vs H Q E h => ?_) (fun cdv A outer s H vs Q E hr h => ?_)
  · obtain ⟨_, _, _, rfl, _⟩ := h
    rfl
  obtain ⟨a, ns, st, rfl, hS, h0, q⟩ := h
  refine ⟨_, (pss_cons (ps_set (i := 2) sc.nd rfl (by first | exact Or.inl rfl | exact Or.inr rfl) (pe_op op_pow pe_int pe_int))
      (pss_cons (ps_if (pt_cmpR (op_uEq hr.units) (pe_op op_mod (pe_callS (ok_cell_at T) (hr.mono (by decide)) (by rfl) T.g__law_cell_at T.k__law_cell_at T.bd__law_cell_at (passAt (takes_of rfl rfl rfl rfl)) (pa_cons (pv 0) (pa_cons (pv 1) pa_nil))) pe_int) pe_int (nomark _)) (pss_one (ps_set (i := 2) sc.nd rfl (by first | exact Or.inl rfl | exact Or.inr rfl) pe_int)) pss_nil)
      (pss_one (ps_ret (pe_lc (own := [("_law_k", 3)]) (by rfl) sc.nd (pi_range1 (by rfl) T.b_range (pa_cons pe_int pa_nil)) (blkOk_by (own := [("_law_k", 3)]) (N := N__law_factors) (sc := defScope s__law_factors) (by decide +kernel)) (fun _ _ _ _ _ => (pg_name (i := 3) sc.nd rfl (by first | exact Or.inl rfl | exact Or.inr rfl))) (fun _ _ _ _ _ => pts_nil) (fun _ _ _ _ _ => (pe_op op_sub (pe_op op_mod (pe_callS (ok_cell_at T) (hr.mono (by decide)) (by rfl) T.g__law_cell_at T.k__law_cell_at T.bd__law_cell_at passL2 (pa_cons (pv 0) (pa_cons (pe_op (K_add (K := K)) (pe_op (K_add (K := K)) (pv 1) pe_int) (pv 3)) pa_nil))) (pe_op (K_add (K := K)) (pe_op op_uMul pe_int (pv 2)) pe_int)) (pv 2)))))))), ?_⟩
  walk_at "begin"
  walk_at "go"
  refine x_join (fun σ' H' => H' = H ∧ ∃ wd : Int, σ' = [some (.ref a), some (.int st), some (.int wd), none] ∧ 1 ≤ wd ∧ wd ≤ 10 ^ 30) (fun R hR => ?_) ?_
  · walk_at "go"
    refine x_iteD (fun h => ?_) (fun h => ?_)
    · walk_at "go"
      exact hR _ _ ⟨rfl, 1, rfl, by decide, by decide⟩
    · walk_at "go"
      exact hR _ _ ⟨rfl, 10 ^ 30, rfl, by decide, by decide⟩
  intro σ' H' ⟨eH, wd, hσ, hw1, hw2⟩
  subst hσ eH
  walk_at "go"
  refine x_lcR1K (fun i acc H' => ∃ fs : List Int, acc = fs.map V.int ∧ fs.length = i ∧ ∀ x ∈ fs, -(10 ^ 30) ≤ x ∧ x ≤ 10 ^ 30) (fun i acc H H' _ h => h) ⟨by omega, by omega⟩ ⟨[], rfl, rfl, fun x hx => by cases hx⟩ ?_ ?_
  · intro i acc H2 hi hs' ⟨fs, hfs, hlen, hb⟩ NY NN hY hN
    dsimp only [wipe]
    walk_at "go"
    refine ⟨rfl, ?_⟩
    have hS' := hs'.seq hS
    walk_at "go"
    have m1 := Int.emod_nonneg (cl ns (st + 1 + (i : Int))) (show 2 * wd + 1 ≠ 0 by omega)
    have m2 := Int.emod_lt_of_pos (cl ns (st + 1 + (i : Int))) (show 0 < 2 * wd + 1 by omega)
    refine hY _ _ (fun _ _ h => h) ⟨fs ++ [cl ns (st + 1 + (i : Int)) % (2 * wd + 1) - wd], ?_, by rw [List.length_append, hlen]; rfl, fun x hx => ?_⟩
    · rw [hfs, List.map_append]
      rfl
    · rcases List.mem_append.mp hx with hx | hx
      · exact hb x hx
      · rw [List.mem_singleton.mp hx]
        omega
  intro p acc H2 hp2 hs2 hn2 ⟨fs, hfs, hlen, hb⟩
  subst hfs
  walk_at "go"
  exact q p fs H2 hs2 hp2 hn2 ⟨hlen, hb⟩
/-! ### the two weights -/
def lamAtL (st : Stmt) (i : Nat) : Option (Arguments × Expr × Scope) := match ((defBody st)[i]? : Option Stmt) with
  | some (Stmt.Assign _ (Expr.List [Expr.Call _ [Expr.Lambda p e s _] _ _] _) _) => some (p, e, s)
  | some (Stmt.Expr (Expr.Call _ [Expr.Call _ [Expr.Lambda p e s _] _ _] _ _) _) => some (p, e, s)
  | _ => none
abbrev lamPL (i : Nat) : Arguments := ((lamAtL s_law i).map (·.1)).getD (defArgs s_law)
abbrev lamEL (i : Nat) : Expr := ((lamAtL s_law i).map (·.2.1)).getD default
abbrev lamSL (i : Nat) : Scope := ((lamAtL s_law i).map (·.2.2)).getD (defScope s_law)
abbrev lamQL : Str := (("law" : Str) ++ ".<locals>.") ++ "<lambda>"
theorem lamScF {c : Addr} {v : V} : LamSc (lamSL 5) "_law_tally" (some ("_law_factors_here", c, v)) where
  kind := by rfl
  co := by rfl
  gen := by rfl
  nocell := by decide +kernel
  par := by decide +kernel
  free := fun y h => by
    have := PySem.mem_of_lookup h
    have z : ∀ p ∈ (lamSL 5).names, p.2 = .free → p.1 = "_law_factors_here" := by decide +kernel
    exact List.mem_singleton.mpr (z _ this rfl)
  nfree := fun y h => by
    rw [List.mem_singleton.mp h]
    decide +kernel
theorem lamScH {c : Addr} {v : V} : LamSc (lamSL 6) "_law_tally" (some ("_law_heavy", c, v)) where
  kind := by rfl
  co := by rfl
  gen := by rfl
  nocell := by decide +kernel
  par := by decide +kernel
  free := fun y h => by
    have := PySem.mem_of_lookup h
    have z : ∀ p ∈ (lamSL 6).names, p.2 = .free → p.1 = "_law_heavy" := by decide +kernel
    exact List.mem_singleton.mpr (z _ this rfl)
  nfree := fun y h => by
    rw [List.mem_singleton.mp h]
    decide +kernel
def LAF (f c' c q : Addr) (fs : List Int) (H : Hp) : Prop := LamA H f c' lamQL (lamPL 5) (lamEL 5) (lamSL 5) (some ("_law_factors_here", c, .ref q)) ∧ H q = some (.lst (fs.map V.int))
def LAH (f c' c q : Addr) (hv : List Int) (H : Hp) : Prop := LamA H f c' lamQL (lamPL 6) (lamEL 6) (lamSL 6) (some ("_law_heavy", c, .ref q)) ∧ H q = some (.lst (hv.map V.int))
theorem cutA_ne {H : Hp} {c b : Addr} (h : b ≠ c) : cutA H [c] b = H b := by
  unfold cutA
  rw [if_neg (nin_of h)]
theorem same_put {H H' : Hp} {l : List Addr} (s : Same (cutA H l) H') : Same H (putA H H' l) := fun b o e => by
  unfold putA
  by_cases m : b ∈ l
  · rw [if_pos m]
    exact e
  · rw [if_neg m]
    refine s b o ?_
    unfold cutA
    rw [if_neg m]
    exact e
theorem wtF_ok (T : Txt K mg) {f c' c q : Addr} {fs : List Int} (hfs : FOk fs) : WtOk P w K mg base f (LAF f c' c q fs) (wtF fs) where
  ok := fun A outer s H u v Q E hr e0 r h => by
    obtain ⟨one, t, pages, now, e, ⟨hA, hq⟩, ⟨a, rfl, ha⟩, hok, hpn, qq⟩ := h
    cases e
    have hc : H c = some (CellO c (.ref q)) := hA.2.2
    have na : a ≠ c := fun z => by
      rw [z, hc] at ha
      cases ha
    have nq : q ≠ c := fun z => by
      rw [z, hc] at hq
      cases hq
    have ha2 : cutA H [c] a = some (.tup t.vs) := by rw [cutA_ne na]; exact ha
    have hq2 : cutA H [c] q = some (.lst (fs.map V.int)) := by rw [cutA_ne nq]; exact hq
    refine run_lam hA lamScF hr e0 r (fun _ _ _ _ _ => by rfl) (fun hr => (pe_callS (ok_sum T) (hr.mono (by decide)) (by rfl) T.g__law_sum T.k__law_sum T.bd__law_sum passL2 (pa_cons (pv 0) (pa_cons (pv 1) pa_nil)))) ?_
    show _
    dsimp only [capV, capA]
    walk_at "go"
    refine ⟨.ref a, q, t, fs, pages, now, rfl, ⟨a, rfl, ha2⟩, hok, hpn, hq2, hfs, fun H1 hs1 => ?_⟩
    exact qq _ (same_put hs1)
  pin := fun H hA => by
    obtain ⟨⟨⟨pm, ctv, a⟩, _⟩, _⟩ := hA
    exact ⟨_, a⟩
  mono := fun H H' s hA => ⟨hA.1.keep fun a _ o e => s a o e, s _ _ hA.2⟩
def wtH (hv : List Int) (t : Tal) : Int := hv.getD t.b.toNat 0
theorem atI_wtH {hv : List Int} {t : Tal} (hl : hv.length = 16) (hb1 : 0 ≤ t.b) (hb2 : t.b < 16) : atI (hv.map V.int) t.b = some (.int (wtH hv t)) := by
  have : t.b = ((t.b.toNat : Nat) : Int) := by omega
  rw [this]
  refine atI_nat ?_
  rw [List.getElem?_map]
  unfold wtH
  rw [List.getD_eq_getElem?_getD]
  rw [List.getElem?_eq_getElem (by omega)]
  rfl
theorem wtH_ok (T : Txt K mg) {f c' c q : Addr} {hv : List Int} (hl : hv.length = 16) : WtOk P w K mg base f (LAH f c' c q hv) (wtH hv) where
  ok := fun A outer s H u v Q E hr e0 r h => by
    obtain ⟨one, t, pages, now, e, ⟨hA, hq⟩, ⟨a, rfl, ha⟩, hok, hpn, qq⟩ := h
    cases e
    have hc : H c = some (CellO c (.ref q)) := hA.2.2
    have na : a ≠ c := fun z => by
      rw [z, hc] at ha
      cases ha
    have nq : q ≠ c := fun z => by
      rw [z, hc] at hq
      cases hq
    have ha2 : cutA H [c] a = some (.tup t.vs) := by rw [cutA_ne na]; exact ha
    have hq2 : cutA H [c] q = some (.lst (hv.map V.int)) := by rw [cutA_ne nq]; exact hq
    unfold Tal.vs at ha2
    have hb1 := hok.1
    have hb2 := hok.2.1
    have hx : atI (hv.map V.int) t.b = some (.int (wtH hv t)) := atI_wtH hl hb1 hb2
    refine run_lam hA lamScH hr e0 r (fun _ _ _ _ _ => by rfl) (fun hr => (pe_ifExp (pt_truth (pe_callB (cr_uisinstance) (by rfl) T.b_isinstance bt_isinstance (pa_cons (pv 0) (pa_cons (pe_bltn (v := .ty "tuple") (by rfl) T.b_tuple bt_tuple rfl) pa_nil))) (by intro _; rfl)) (pe_ix ix_seq (pv 1) (pe_ix ix_seq (pv 0) pe_int (fun _ _ => rfl)) (fun _ _ => rfl)) pe_int)) ?_
    show _
    dsimp only [capV, capA]
    walk_at "go"
    exact qq _ (same_put fun _ _ h => h)
  pin := fun H hA => by
    obtain ⟨⟨⟨pm, ctv, a⟩, _⟩, _⟩ := hA
    exact ⟨_, a⟩
  mono := fun H H' s hA => ⟨hA.1.keep fun a _ o e => s a o e, s _ _ hA.2⟩
/-! ### the law -/
abbrev tabL (T : Txt K mg) : List (Addr × Str) := [(T.lt_law, lamQL)]
/-- what is known of one of the two rules: its object, its weight, what it leans on once its cell is shown -/
def KDat (T : Txt K mg) (P : Program) (w : World) (base : Heap) (H0 : Hp) (c : Addr) (z : V) (r dx f : Addr) (wt : Tal → Int) : Prop :=
  H0 r = some (.ins T.C_Weighed dx [("weigh", .ref f)]) ∧ ∃ (LA : Hp → Prop) (la : List Addr), WtOk P w K mg base f LA wt ∧ (∀ H, Same H0 H → H c = none → LA (upd H c (CellO c z))) ∧
    (∀ H1 H2 : Hp, (∀ a ∈ la, ∀ o, H1 a = some o → H2 a = some o) → LA H1 → LA H2) ∧ ∀ H, Same H0 H → H c = none → ∀ a ∈ la, ∃ o, (upd H c (CellO c z)) a = some o ∧ ∀ xs, o ≠ .tup xs
theorem kdF (T : Txt K mg) {H0 : Hp} {c q r dx f c' : Addr} {fs : List Int} {pm ctv : Value} (hfs : FOk fs) (hr : H0 r = some (.ins T.C_Weighed dx [("weigh", .ref f)])) (hf : H0 f = some (PinO f (PySem.W.kla_obj "<lambda>" lamQL (lamPL 5) (lamEL 5) (lamSL 5) [(("_law_factors_here" : Str), c)] pm c' ctv))) (hc : H0 c' = some (CodeO c' lamQL)) (hq : H0 q = some (.lst (fs.map V.int))) :
    KDat T P w base H0 c (.ref q) r dx f (wtF fs) := by
  have k : ∀ {H : Hp} {b : Addr} {o : HO}, Same H0 H → H c = none → H0 b = some o → (upd H c (CellO c (.ref q))) b = some o := fun s n e => by
    rw [upd_ne (ne_of_none (s _ _ e) n)]
    exact s _ _ e
  refine ⟨hr, LAF f c' c q fs, [f, c', c, q], wtF_ok T hfs, fun H s n => ⟨⟨⟨pm, ctv, k s n hf⟩, k s n hc, upd_same⟩, k s n hq⟩, fun H1 H2 kk h => ⟨h.1.keep fun a ha => kk a (by
    rcases List.mem_cons.mp ha with rfl | ha
    · simp
    rcases List.mem_cons.mp ha with rfl | ha
    · simp
    · rw [List.mem_singleton.mp ha]; simp), kk _ (by simp) _ h.2⟩, fun H s n a ha => ?_⟩
  rcases List.mem_cons.mp ha with rfl | ha
  · exact ⟨_, k s n hf, fun xs z => by cases z⟩
  rcases List.mem_cons.mp ha with rfl | ha
  · exact ⟨_, k s n hc, fun xs z => by cases z⟩
  rcases List.mem_cons.mp ha with rfl | ha
  · exact ⟨_, upd_same, fun xs z => by cases z⟩
  · rw [List.mem_singleton.mp ha]
    exact ⟨_, k s n hq, fun xs z => by cases z⟩
theorem kdH (T : Txt K mg) {H0 : Hp} {c q r dx f c' : Addr} {hv : List Int} {pm ctv : Value} (hl : hv.length = 16) (hr : H0 r = some (.ins T.C_Weighed dx [("weigh", .ref f)])) (hf : H0 f = some (PinO f (PySem.W.kla_obj "<lambda>" lamQL (lamPL 6) (lamEL 6) (lamSL 6) [(("_law_heavy" : Str), c)] pm c' ctv))) (hc : H0 c' = some (CodeO c' lamQL)) (hq : H0 q = some (.lst (hv.map V.int))) :
    KDat T P w base H0 c (.ref q) r dx f (wtH hv) := by
  have k : ∀ {H : Hp} {b : Addr} {o : HO}, Same H0 H → H c = none → H0 b = some o → (upd H c (CellO c (.ref q))) b = some o := fun s n e => by
    rw [upd_ne (ne_of_none (s _ _ e) n)]
    exact s _ _ e
  refine ⟨hr, LAH f c' c q hv, [f, c', c, q], wtH_ok T hl, fun H s n => ⟨⟨⟨pm, ctv, k s n hf⟩, k s n hc, upd_same⟩, k s n hq⟩, fun H1 H2 kk h => ⟨h.1.keep fun a ha => kk a (by
    rcases List.mem_cons.mp ha with rfl | ha
    · simp
    rcases List.mem_cons.mp ha with rfl | ha
    · simp
    · rw [List.mem_singleton.mp ha]; simp), kk _ (by simp) _ h.2⟩, fun H s n a ha => ?_⟩
  rcases List.mem_cons.mp ha with rfl | ha
  · exact ⟨_, k s n hf, fun xs z => by cases z⟩
  rcases List.mem_cons.mp ha with rfl | ha
  · exact ⟨_, k s n hc, fun xs z => by cases z⟩
  rcases List.mem_cons.mp ha with rfl | ha
  · exact ⟨_, upd_same, fun xs z => by cases z⟩
  · rw [List.mem_singleton.mp ha]
    exact ⟨_, k s n hq, fun xs z => by cases z⟩
theorem KDat.mono {T : Txt K mg} {H0 H1 : Hp} {c : Addr} {z : V} {r dx f : Addr} {wt : Tal → Int} (s : Same H0 H1) (h : KDat T P w base H0 c z r dx f wt) : KDat T P w base H1 c z r dx f wt := by
  obtain ⟨a, LA, la, b, d, e, g⟩ := h
  exact ⟨s _ _ a, LA, la, b, fun H s2 n => d H (s.trans s2) n, e, fun H s2 n => g H (s.trans s2) n⟩
def spLaw (K : PySem.W.Frag) (cs : List (Addr × Addr)) : Sp := fun vs H Q _ => ∃ (a : Addr) (ns : List Int), vs = [.ref a] ∧ SqL K H a (ns.map V.int) ∧ ns.length ≤ 63 ∧ (∀ p ∈ cs, H p.2 = some (.tbl #[])) ∧ ∀ H', Q (.bl true) H'
theorem ok_law (T : Txt K mg) (hcs : ∀ p ∈ ([(T.lc_law, T.lt_law)] : List (Addr × Addr)), TabB base mg p.1 p.2) : FO P w K mg base 20 T.a_law T.fd_law ["_law_script"] (spLaw K [(T.lc_law, T.lt_law)]) := by
  have sc := sc_law
  have hTB : TabB base mg T.lc_law T.lt_law := hcs _ List.mem_cons_self
  refine okL T.F_law sc (fun vs H Q E h => ?_) (fun A outer s H vs Q E hr h => ?_)
  · obtain ⟨a, ns, rfl, _⟩ := h
    rfl
  obtain ⟨a, ns, rfl, hS, hl, hTT, q⟩ := h
  have hT0 : H T.lt_law = some (.tbl #[]) := hTT _ List.mem_cons_self
  have hTab : Tabs (tabL T) H := fun p hp => by
    rw [List.mem_singleton.mp hp]
    exact TabS.nil hT0
  have hcdL := T.lcd_law
  have hmL : (T.lt_law, lamQL) ∈ tabL T := List.mem_cons_self
  have huL : ∀ p ∈ tabL T, p.1 = T.lt_law → p.2 = lamQL := fun p hp _ => by rw [List.mem_singleton.mp hp]
  have hz1 : (defScope s_law).names.lookup ("_law_factors_here" : Str) = some .cell := by decide +kernel
  have hz2 : (defScope s_law).names.lookup ("_law_heavy" : Str) = some .cell := by decide +kernel
  obtain ⟨cc1, hcc1⟩ : ∃ c, (cellsFrom (s.heap.objs.size + 1) (defScope s_law).names []).lookup ("_law_factors_here" : Str) = some c := Option.isSome_iff_exists.mp (PySem.W.cellsFrom_some _ _ _ (.inl hz1))
  obtain ⟨cc2, hcc2⟩ : ∃ c, (cellsFrom (s.heap.objs.size + 1) (defScope s_law).names []).lookup ("_law_heavy" : Str) = some c := Option.isSome_iff_exists.mp (PySem.W.cellsFrom_some _ _ _ (.inl hz2))
  have lamFree0 : ∀ y ∈ (lamSL 5).names, y.2 = .free → ∃ c, (cellsFrom (s.heap.objs.size + 1) (defScope s_law).names []).lookup y.1 = some c := fun y hy hf => by
    have z : ∀ p ∈ (lamSL 5).names, p.2 = .free → p.1 = "_law_factors_here" := by decide +kernel
    rw [z y hy hf]
    exact ⟨cc1, hcc1⟩
  have lamFree1 : ∀ y ∈ (lamSL 6).names, y.2 = .free → ∃ c, (cellsFrom (s.heap.objs.size + 1) (defScope s_law).names []).lookup y.1 = some c := fun y hy hf => by
    have z : ∀ p ∈ (lamSL 6).names, p.2 = .free → p.1 = "_law_heavy" := by decide +kernel
    rw [z y hy hf]
    exact ⟨cc2, hcc2⟩
  have ecl1 : cloFrom (cellsFrom (s.heap.objs.size + 1) (defScope s_law).names []) (lamSL 5).names [] = [(("_law_factors_here" : Str), cc1)] := by
    show [(("_law_factors_here" : Str), (List.lookup _ _).getD 0)] = _
    rw [hcc1]
    rfl
  have ecl2 : cloFrom (cellsFrom (s.heap.objs.size + 1) (defScope s_law).names []) (lamSL 6).names [] = [(("_law_heavy" : Str), cc2)] := by
    show [(("_law_heavy" : Str), (List.lookup _ _).getD 0)] = _
    rw [hcc2]
    rfl
  refine ⟨_, (pss_cons (ps_set (i := 1) sc.nd rfl (by first | exact Or.inl rfl | exact Or.inr rfl) (pe_op op_uAdd pe_int (pe_op op_mod (pe_callS (ok_cell_at T) (hr.mono (by decide)) (by rfl) T.g__law_cell_at T.k__law_cell_at T.bd__law_cell_at (passAt (takes_of rfl rfl rfl rfl)) (pa_cons (pv 0) (pa_cons pe_int pa_nil))) pe_int)))
      (pss_cons (ps_set (i := 2) sc.nd rfl (by first | exact Or.inl rfl | exact Or.inr rfl) (pe_callS (ok_now T) (hr.mono (by decide)) (by rfl) T.g__law_now T.k__law_now T.bd__law_now (passAt (takes_of rfl rfl rfl rfl)) (pa_cons (pe_callS (ok_cell_at T) (hr.mono (by decide)) (by rfl) T.g__law_cell_at T.k__law_cell_at T.bd__law_cell_at (passAt (takes_of rfl rfl rfl rfl)) (pa_cons (pv 0) (pa_cons pe_int pa_nil))) pa_nil)))
      (pss_cons (ps_set (i := 3) sc.nd rfl (by first | exact Or.inl rfl | exact Or.inr rfl) (pe_callS (ok_tallies T) (hr.mono (by decide)) (by rfl) T.g__law_tallies T.k__law_tallies T.bd__law_tallies (passAt (takes_of rfl rfl rfl rfl)) (pa_cons (pv 0) (pa_cons pe_int (pa_cons (pv 1) (pa_cons (pv 2) pa_nil))))))
      (pss_cons (ps_set (i := 4) sc.nd rfl (by first | exact Or.inl rfl | exact Or.inr rfl) (pe_callS (ok_factors T) (hr.mono (by decide)) (by rfl) T.g__law_factors T.k__law_factors T.bd__law_factors (passAt (takes_of rfl rfl rfl rfl)) (pa_cons (pv 0) (pa_cons pe_int pa_nil))))
      (pss_cons (ps_set (i := 5) sc.nd rfl (by first | exact Or.inl rfl | exact Or.inr rfl) (pe_lc (own := [("_law_k", 6)]) (by rfl) sc.nd (pi_range1 (by rfl) T.b_range (pa_cons pe_int pa_nil)) (blkOk_by (own := [("_law_k", 6)]) (N := N_law) (sc := defScope s_law) (by decide +kernel)) (fun _ _ _ _ _ => (pg_name (i := 6) sc.nd rfl (by first | exact Or.inl rfl | exact Or.inr rfl))) (fun _ _ _ _ _ => pts_nil) (fun _ _ _ _ _ => (pe_op op_sub (pe_op op_mod (pe_callS (ok_cell_at T) (hr.mono (by decide)) (by rfl) T.g__law_cell_at T.k__law_cell_at T.bd__law_cell_at passL2 (pa_cons (pv 0) (pa_cons (pe_op (K_add (K := K)) pe_int (pv 6)) pa_nil))) pe_int) pe_int))))
      (pss_cons (ps_set (i := 7) sc.nd rfl (by first | exact Or.inl rfl | exact Or.inr rfl) (pe_lst (pa_cons (pe_mkS T.mk_Weighed (ok_Weighed_init T) (hr.mono (by decide)) (by rfl) T.g_Weighed T.bd_Weighed_init .nil (passAt (takes_of rfl rfl rfl rfl)) (pa_cons (pe_lamK hTB hcdL hmL huL rfl (by rfl) lamFree0) pa_nil)) pa_nil)))
      (pss_cons (ps_expr (pe_bm PySem.F.plainAttrs_list PySem.F.slot_list_append PySem.F.type_list_append mt_append (pv 7) (pa_cons (pe_mkS T.mk_Weighed (ok_Weighed_init T) (hr.mono (by decide)) (by rfl) T.g_Weighed T.bd_Weighed_init .nil (passAt (takes_of rfl rfl rfl rfl)) (pa_cons (pe_lamK hTB hcdL hmL huL rfl (by rfl) lamFree1) pa_nil)) pa_nil)))
      (pss_cons (ps_set (i := 8) sc.nd rfl (by first | exact Or.inl rfl | exact Or.inr rfl) (pe_lst (pa_cons (pe_lc (own := [("_law_tally", 9)]) (by rfl) sc.nd (pi_list (pv 3)) (blkOk_by (own := [("_law_tally", 9)]) (N := N_law) (sc := defScope s_law) (by decide +kernel)) (fun _ _ _ _ _ => (pg_name (i := 9) sc.nd rfl (by first | exact Or.inl rfl | exact Or.inr rfl))) (fun _ _ _ _ _ => pts_nil) (fun _ _ _ _ _ => (pe_callS (ok_sum T) (hr.mono (by decide)) (by rfl) T.g__law_sum T.k__law_sum T.bd__law_sum passL2 (pa_cons (pv 9) (pa_cons (pv 4) pa_nil))))) (pa_cons (pe_lc (own := [("_law_tally", 9)]) (by rfl) sc.nd (pi_list (pv 3)) (blkOk_by (own := [("_law_tally", 9)]) (N := N_law) (sc := defScope s_law) (by decide +kernel)) (fun _ _ _ _ _ => (pg_name (i := 9) sc.nd rfl (by first | exact Or.inl rfl | exact Or.inr rfl))) (fun _ _ _ _ _ => pts_nil) (fun _ _ _ _ _ => (pe_ix (K_ix (K := K)) (pv 5) (pe_ix (K_ix (K := K)) (pv 9) pe_int (fun _ _ => rfl)) (fun _ _ => rfl)))) pa_nil))))
      (pss_cons (ps_for (passes_of rfl) rfl (pi_list (pe_lst (pa_cons pe_int (pa_cons pe_int (pa_cons pe_int pa_nil))))) (pg_name (i := 6) sc.nd rfl (by first | exact Or.inl rfl | exact Or.inr rfl)) (pss_cons (ps_for (passes_of rfl) rfl (pi_list (pe_lst (pa_cons (pe_tup (pa_cons pe_int (pa_cons (pe_un un_neg pe_int) pa_nil))) (pa_cons (pe_tup (pa_cons (pe_un un_neg pe_int) (pa_cons pe_int pa_nil))) pa_nil)))) (pg_tup (by rfl) (pgs_cons (pg_name (i := 10) sc.nd rfl (by first | exact Or.inl rfl | exact Or.inr rfl)) (pgs_cons (pg_name (i := 11) sc.nd rfl (by first | exact Or.inl rfl | exact Or.inr rfl)) pgs_nil))) (pss_cons (ps_set (i := 12) sc.nd rfl (by first | exact Or.inl rfl | exact Or.inr rfl) (pe_methDC (k := 17) sc.nd (fun _ => rfl) (pe_ix ix_seq (pv 7) (pv 6) (fun _ _ => rfl)) (hr.mono (by decide)) (pa_cons (pe_ix ix_seq (pv 3) (pv 10) (fun _ _ => rfl)) (pa_cons (pe_ix ix_seq (pv 3) (pv 11) (fun _ _ => rfl)) (pa_cons (pv 1) (pa_cons (pv 2) pa_nil))))))
      (pss_one (ps_if (PW.pt (pw_or (pt_not (pt_truth (pe_callB (cr_uisinstance) (by rfl) T.b_isinstance bt_isinstance (pa_cons (pv 12) (pa_cons (pe_bltn (v := .ty "bool") (by rfl) T.b_bool bt_bool rfl) pa_nil))) (by intro _; rfl))) (pw_or1 (pt_cmpR (op_uNe hr.units) (pv 12) (pe_cmpR op_uLt (pe_ix ix_seq (pe_ix ix_seq (pv 8) (pv 6) (fun _ _ => rfl)) (pv 10) (fun _ _ => rfl)) (pe_ix ix_seq (pe_ix ix_seq (pv 8) (pv 6) (fun _ _ => rfl)) (pv 11) (fun _ _ => rfl)) (nomark _)) (nomark _))))) (pss_one (ps_ret pe_bl)) pss_nil))))
      (pss_cons (ps_set (i := 13) sc.nd rfl (by first | exact Or.inl rfl | exact Or.inr rfl) (pe_callTy ct_list (by rfl) T.b_list bt_list (pa_cons (pv 3) pa_nil)))
      (pss_cons (ps_set (i := 12) sc.nd rfl (by first | exact Or.inl rfl | exact Or.inr rfl) (pe_methDC (k := 18) sc.nd (fun _ => rfl) (pe_ix ix_seq (pv 7) (pv 6) (fun _ _ => rfl)) (hr.mono (by decide)) (pa_cons (pv 13) (pa_cons (pv 1) (pa_cons (pv 2) pa_nil)))))
      (pss_one (ps_if (PW.pt (pw_or (pt_not (pt_truth (pe_callS (ok_whole T) (hr.mono (by decide)) (by rfl) T.g__law_whole T.k__law_whole T.bd__law_whole (passAt (takes_of rfl rfl rfl rfl)) (pa_cons (pv 12) pa_nil)) (by intro _; rfl))) (pw_or (pt_cmpR (op_uNe hr.units) (pv 12) (pe_callS (ok_first T) (hr.mono (by decide)) (by rfl) T.g__law_first T.k__law_first T.bd__law_first (passAt (takes_of rfl rfl rfl rfl)) (pa_cons (pv 3) (pa_cons (pe_ix ix_seq (pv 8) (pv 6) (fun _ _ => rfl)) pa_nil))) (nomark _)) (pw_or1 (pt_cmpR (op_uNe hr.units) (pv 13) (pv 3) (nomark _)))))) (pss_one (ps_ret pe_bl)) pss_nil))))))
      (pss_one (ps_ret pe_bl))))))))))), ?_⟩
  walk_at "begin"
  walk_at "go"
  have hp1 : 1 ≤ 1 + cl ns 0 % 16 := by omega
  have hp2 : 1 + cl ns 0 % 16 ≤ 16 := by omega
  rename_i now hn1 hn2 p ts H1 hs1 hpn hT hne hG hL
  generalize 1 + cl ns 0 % 16 = pages at hp1 hp2 hG ⊢
  have hok : ∀ t ∈ ts, TOk pages now t := fun t ht => hG.1 t ht
  have hpn2 : PN pages now := ⟨hp1, hp2, hn1, hn2⟩
  refine ⟨a, ns, 18, rfl, hs1.seq hS, by decide, fun p4 fs H2 hs2 hp4 hn4 hfs => ?_⟩
  walk_at "go"
  refine x_lcR1K (fun i acc H' => ∃ hv : List Int, acc = hv.map V.int ∧ hv.length = i ∧ ∀ x ∈ hv, -3 ≤ x ∧ x ≤ 3) (fun i acc H H' _ h => h) ⟨by decide, by decide⟩ ⟨[], rfl, rfl, fun x hx => by cases hx⟩ ?_ ?_
  · intro i acc H3 hi hs' ⟨hv, hhv, hlen, hb⟩ NY NN hY hN
    dsimp only [wipe]
    walk_at "go"
    refine ⟨rfl, ?_⟩
    have hS' := ((hs1.trans hs2).trans hs').seq hS
    walk_at "go"
    refine hY _ _ (fun _ _ h => h) ⟨hv ++ [cl ns (23 + (i : Int)) % 7 - 3], ?_, by rw [List.length_append, hlen]; rfl, fun x hx => ?_⟩
    · rw [hhv, List.map_append]
      rfl
    · rcases List.mem_append.mp hx with hx | hx
      · exact hb x hx
      · rw [List.mem_singleton.mp hx]
        omega
  intro p5 acc H3 hp5 hs3 hn5 ⟨hv, hhv, hlen, hb⟩
  subst hhv
  have hlen : hv.length = 16 := hlen
  have s03 := (hs1.trans hs2).trans hs3
  walk_at "go"
  refine x_lamK (Tabs.ext hTab fun b o e => s03 b o e) fun f1 c1' pm1 ctv1 H4 hO4 hT4 hf1 hf12 hc1 hc10 => ?_
  walk_at "go"
  have hf13 : H4 f1 = some (PinO f1 (PySem.W.kla_obj "<lambda>" lamQL (lamPL 5) (lamEL 5) (lamSL 5) [(("_law_factors_here" : Str), cc1)] pm1 c1' ctv1)) := by
    rw [← ecl1]
    exact hf12
  have hc12 : H4 c1' = some (CodeO c1' lamQL) := hc1
  clear hf12 hc1
  rename_i r1 dx1 H5 hr1 hdx1 hne1 hs5 hi5 hd5
  refine ⟨r1, dx1, f1, rfl, hi5, fun H6 hO6 hI6 => ⟨rfl, ?_⟩⟩
  have s46 : Same H4 H6 := Off.same1 hs5 hO6 hr1
  walk_at "go"
  rename_i p7 H7 hp7 hs7 hn7
  have s47 := s46.trans hs7
  refine x_lamK (Tabs.ext hT4 fun b o e => s47 b o e) fun f2 c2' pm2 ctv2 H8 hO8 hT8 hf2 hf22 hc2 hc20 => ?_
  walk_at "go"
  have hf23 : H8 f2 = some (PinO f2 (PySem.W.kla_obj "<lambda>" lamQL (lamPL 6) (lamEL 6) (lamSL 6) [(("_law_heavy" : Str), cc2)] pm2 c2' ctv2)) := by
    rw [← ecl2]
    exact hf22
  have hc22 : H8 c2' = some (CodeO c2' lamQL) := hc2
  clear hf22 hc2
  rename_i r2 dx2 H9 hr2 hdx2 hne2 hs9 hi9 hd9
  refine ⟨r2, dx2, f2, rfl, hi9, fun H10 hO10 hI10 => ⟨rfl, ?_⟩⟩
  have s810 : Same H8 H10 := Off.same1 hs9 hO10 hr2
  have hlt3 : H3 T.lt_law = some (.tbl #[]) := s03 _ _ hT0
  obtain ⟨ps4, hlt4, _⟩ := hT4 _ List.mem_cons_self
  have hlt4 : H4 T.lt_law = some (.tbl ps4) := hlt4
  have hlt7 := s47 _ _ hlt4
  have up34 : ∀ {b : Addr} {o : HO}, H3 b = some o → (∀ ps, o ≠ .tbl ps) → H4 b = some o := fun {b o} e n => hO4 b o (fun m => by rw [List.mem_singleton.mp m, hlt3] at e; exact n _ (Option.some.inj e).symm) e
  have up78 : ∀ {b : Addr} {o : HO}, H7 b = some o → (∀ ps, o ≠ .tbl ps) → H8 b = some o := fun {b o} e n => hO8 b o (fun m => by rw [List.mem_singleton.mp m, hlt7] at e; exact n _ (Option.some.inj e).symm) e
  have up410 : ∀ {b : Addr} {o : HO}, H4 b = some o → (∀ ps, o ≠ .tbl ps) → H10 b = some o := fun {b o} e n => s810 _ _ (up78 (s47 _ _ e) n)
  have up310 : ∀ {b : Addr} {o : HO}, H3 b = some o → (∀ ps, o ≠ .tbl ps) → H10 b = some o := fun {b o} e n => up410 (up34 e n) n
  have hp710 : H10 p7 = some (.lst [V.ref r1]) := s810 _ _ (up78 hn7 (fun ps z => by cases z))
  walk_at "go"
  have up36 : ∀ {b : Addr} {o : HO}, H3 b = some o → (∀ ps, o ≠ .tbl ps) → H6 b = some o := fun {b o} e n => s46 _ _ (up34 e n)
  obtain ⟨H11, eH11⟩ : ∃ H11, upd H10 p7 (.lst ([V.ref r1] ++ [V.ref r2])) = H11 := ⟨_, rfl⟩
  rw [eH11]
  have hp711 : H11 p7 = some (.lst [V.ref r1, V.ref r2]) := by rw [← eH11]; exact upd_same
  have upN : ∀ {b : Addr} {o : HO}, H10 b = some o → (∀ xs, o ≠ .lst xs) → H11 b = some o := fun {b o} e n => by
    rw [← eH11, upd_ne (ne_of e hp710 (n _))]
    exact e
  have upL : ∀ {b : Addr} {o : HO}, H3 b = some o → (∀ ps, o ≠ .tbl ps) → H11 b = some o := fun {b o} e n => by
    rw [← eH11, upd_ne (ne_of_none (up36 e n) hp7)]
    exact up310 e n
  obtain ⟨vs, hvs, hall⟩ := hT
  have tt : TupS H3 H11 := fun c xs e => upL e (fun ps z => by cases z)
  have hvs11 : H11 p = some (.lst vs) := upL (hs3 _ _ (hs2 _ _ hvs)) (fun ps z => by cases z)
  have hall11 : TAll H11 vs ts := (hall.mono (TupS.of (hs2.trans hs3))).mono tt
  have hn411 : H11 p4 = some (.lst (fs.map V.int)) := upL (hs3 _ _ hn4) (fun ps z => by cases z)
  have hn511 : H11 p5 = some (.lst (hv.map V.int)) := upL hn5 (fun ps z => by cases z)
  have kd1 : KDat T P w base H11 cc1 (.ref p4) r1 dx1 f1 (wtF fs) := kdF T hfs (upN (s810 _ _ (up78 (hs7 _ _ hI6) (fun ps z => by cases z))) (fun ps z => by cases z)) (upN (up410 hf13 (fun ps z => by cases z)) (fun ps z => by cases z)) (upN (up410 hc12 (fun ps z => by cases z)) (fun ps z => by cases z)) hn411
  have kd2 : KDat T P w base H11 cc2 (.ref p5) r2 dx2 f2 (wtH hv) := kdH T hlen (upN hI10 (fun ps z => by cases z)) (upN (s810 _ _ hf23) (fun ps z => by cases z)) (upN (s810 _ _ hc22) (fun ps z => by cases z)) hn511
  clear upL upN tt up36 up310 up410 up78 up34 hp710 hlt7 hlt4 hlt3 s810 hO10 hI10 hd9 hi9 hs9 hdx2 hr2 hc20 hf2 hT8 hO8 s47 hn7 hs7 hp7 s46 hO6 hI6 hd5 hi5 hs5 hdx1 hr1 hc10 hf1 hT4 hO4 s03 hs3 hs2 hs1 hS hvs hall hn4 hn5 hTab hT0 hTT hf13 hc12 hf23 hc22 eH11 hp4 hp5 hpn
  have hpos : 0 < ts.length := List.length_pos_iff.mpr hne
  have hvl : vs.length < sizeLine := small64 (by rw [hall11.1]; omega)
  refine x_lcLK (SqL.of hvs11) (fun i acc H' => acc = ((ts.take i).map (wtF fs)).map V.int) (fun i acc H H' _ h => h) hvl rfl ?_ ?_
  · intro i x acc H' hx hs' hacc NY NN hY hN
    obtain ⟨t, hti, hxt⟩ := hall11.get hx
    have hxt := hxt.mono (TupS.of hs')
    have et : ts.take (i + 1) = ts.take i ++ [t] := by rw [List.take_add_one, hti]; rfl
    dsimp only [wipe]
    walk_at "go"
    refine ⟨rfl, ?_⟩
    walk_at "go"
    refine ⟨x, p4, t, fs, pages, now, rfl, hxt, hok t (List.mem_of_getElem? hti), hpn2, hs' _ _ hn411, hfs, fun H3 hs3 => ?_⟩
    refine hY _ _ hs3 ?_
    show acc ++ _ = List.map V.int (List.map (wtF fs) (ts.take (i + 1)))
    rw [hacc, et, List.map_append, List.map_append]
    rfl
  intro l1 acc H12 hl1 hs12 hn12 hacc
  rw [hall11.1, List.take_length] at hacc
  subst hacc
  have hvs12 := hs12 _ _ hvs11
  have hall12 := hall11.mono (TupS.of hs12)
  have hn512 := hs12 _ _ hn511
  walk_at "go"
  refine x_lcLK (SqL.of hvs12) (fun i acc H' => acc = ((ts.take i).map (wtH hv)).map V.int) (fun i acc H H' _ h => h) hvl rfl ?_ ?_
  · intro i x acc H' hx hs' hacc NY NN hY hN
    obtain ⟨t, hti, hxt⟩ := hall12.get hx
    obtain ⟨b, rfl, hb'⟩ := hxt.mono (TupS.of hs')
    have hto := hok t (List.mem_of_getElem? hti)
    have hb1 := hto.1
    have hb2 := hto.2.1
    have et : ts.take (i + 1) = ts.take i ++ [t] := by rw [List.take_add_one, hti]; rfl
    have hx5 : atI (hv.map V.int) t.b = some (.int (wtH hv t)) := atI_wtH hlen hb1 hb2
    have hn5' := hs' _ _ hn512
    unfold Tal.vs at hb'
    dsimp only [wipe]
    walk_at "go"
    refine ⟨rfl, ?_⟩
    walk_at "go"
    refine hY _ _ (fun _ _ h => h) ?_
    show acc ++ _ = List.map V.int (List.map (wtH hv) (ts.take (i + 1)))
    rw [hacc, et, List.map_append, List.map_append]
    rfl
  intro l2 acc H13 hl2 hs13 hn13 hacc
  rw [hall12.1, List.take_length] at hacc
  subst hacc
  have hn12' := hs13 _ _ hn12
  walk_at "go"
  rename_i l8 H14 hl8 hs14 hn8
  have s1114 : Same H11 H14 := (hs12.trans hs13).trans hs14
  have kd1' := kd1.mono s1114
  have kd2' := kd2.mono s1114
  have hvs14 := s1114 _ _ hvs11
  have hall14 := hall11.mono (TupS.of s1114)
  have hp714 := s1114 _ _ hp711
  have hr1' := hs14 _ _ hn12'
  have hr2' := hs14 _ _ hn13
  have kdat : ∀ k : Int, k = 0 ∨ k = 1 → ∃ (i : Nat) (y : Str) (c : Addr) (z : V) (r dx f l : Addr) (wt : Tal → Int), (i = 4 ∧ z = .ref p4 ∨ i = 5 ∧ z = .ref p5) ∧ N_law[i]? = some y ∧ (defScope s_law).names.lookup y = some .cell ∧ (cellsFrom (s.heap.objs.size + 1) (defScope s_law).names []).lookup y = some c ∧
      atI [V.ref r1, V.ref r2] k = some (.ref r) ∧ atI [V.ref l1, V.ref l2] k = some (.ref l) ∧ H14 l = some (.lst ((ts.map wt).map V.int)) ∧ KDat T P w base H14 c z r dx f wt := fun k hk => by
    rcases hk with rfl | rfl
    · exact ⟨4, _, cc1, _, r1, dx1, f1, l1, wtF fs, .inl ⟨rfl, rfl⟩, rfl, hz1, hcc1, rfl, rfl, hr1', kd1'⟩
    · exact ⟨5, _, cc2, _, r2, dx2, f2, l2, wtH hv, .inr ⟨rfl, rfl⟩, rfl, hz2, hcc2, rfl, rfl, hr2', kd2'⟩
  have ML : MO P w K mg base (L2.CX P w) 17 T.C_Weighed "goes_ahead" (spWgGA T P w base) := ⟨⟨_, _, _, T.cl_Weighed, T.m_Weighed_goes_ahead, (ok_Weighed_goes_ahead T).mono (by decide), T.bd_Weighed_goes_ahead⟩⟩
  have MC : MO P w K mg base (L2.CX P w) 18 T.C_Weighed "choose" (spChoose P w K mg base) := ⟨⟨_, _, _, T.cl_Weighed, T.m_Weighed_choose, ok_Rule_choose T, T.bd_Rule_choose⟩⟩
  clear kd1 kd2 kd1' kd2' hr1' hr2' s1114 hs14 hs13 hs12 hall12 hvs12 hall11 hvs11 hp711 hn12 hn13 hn12' hn411 hn511 hn512 hl1 hl2 hl8
  refine x_seq ?_
  walk_at "go"
  rename_i l3 H15 hl3 hs15 hn15
  refine x_frL (SqL.of hn15) (fun i σ H' => ∃ (v6 v10 v11 v12 v13 : Option V), σ = [some (.ref a), some (.int pages), some (.int now), some (.ref p), some (.ref p4), some (.ref p5), v6, some (.ref p7), some (.ref l8), none, v10, v11, v12, v13] ∧ Same H15 H') ⟨_, _, _, _, _, rfl, fun _ _ h => h⟩ (fun i σ H' _ ⟨_, _, _, _, _, _, s⟩ => s.seq (SqL.of hn15)) ?_ ?_
  · intro ik xk σ H16 hxk ⟨v6, v10, v11, v12, v13, hσ, hs16⟩
    subst hσ
    obtain ⟨k, rfl, hk⟩ : ∃ k : Int, xk = .int k ∧ (k = 0 ∨ k = 1) := by
      match ik, hxk with
      | 0, h => cases h; exact ⟨0, rfl, .inl rfl⟩
      | 1, h => cases h; exact ⟨1, rfl, .inr rfl⟩
      | 2, h => cases h; exact ⟨0, rfl, .inl rfl⟩
    obtain ⟨ci, cy, cc, cz, r, dx, f, l, wt, hcz, hci, hcs, hcc, har, hal, hnl, kd⟩ := kdat k hk
    have s1416 := hs15.trans hs16
    have kd := kd.mono s1416
    have hnl := s1416 _ _ hnl
    have hn8' := s1416 _ _ hn8
    have hp7' := s1416 _ _ hp714
    have hvs' := s1416 _ _ hvs14
    have hall' := hall14.mono (TupS.of s1416)
    walk_at "go"
    refine x_seq ?_
    walk_at "go"
    rename_i q1 H9 hq1 hs9 hn9 q2 H10 hq2 hs10 hn10 ql HL hql hsL hnL
    have s8L := (hs9.trans hs10).trans hsL
    have QQ : ∀ (i : Nat) x, [V.ref q1, V.ref q2][i]? = some x → ∃ b one other, x = .ref b ∧ HL b = some (.tup [.int one, .int other]) ∧ (one = 0 ∨ one = -1) ∧ (other = 0 ∨ other = -1) := by
      intro i x h
      match i, h with
      | 0, h => cases h; exact ⟨q1, 0, -1, rfl, hsL _ _ (hs10 _ _ hn9), .inl rfl, .inr rfl⟩
      | 1, h => cases h; exact ⟨q2, -1, 0, rfl, hsL _ _ hn10, .inr rfl, .inl rfl⟩
    refine x_frL (SqL.of hnL) (fun j0 σ HX => ∃ (v10 v11 v12 : Option V), σ = [some (.ref a), some (.int pages), some (.int now), some (.ref p), some (.ref p4), some (.ref p5), some (.int k), some (.ref p7), some (.ref l8), none, v10, v11, v12, v13] ∧ Same HL HX)
      ⟨_, _, _, rfl, fun _ _ h => h⟩ (fun i σ HX _ ⟨_, _, _, _, hs⟩ => hs.seq (SqL.of hnL)) ?_ ?_
    · intro j x σ HX hx ⟨v10, v11, v12, hσ, hsX⟩
      subst hσ
      obtain ⟨b, one, other, rfl, hb, ho1, ho2⟩ := QQ j x hx
      obtain ⟨j1, hj1, g1⟩ := atI_any ts.length hpos one ho1
      obtain ⟨j2, hj2, g2⟩ := atI_any ts.length hpos other ho2
      have ga1 : atI vs one = some (vs[j1]'(hall'.1 ▸ hj1)) := by rw [g1 vs hall'.1, List.getElem?_eq_getElem]
      have ga2 : atI vs other = some (vs[j2]'(hall'.1 ▸ hj2)) := by rw [g2 vs hall'.1, List.getElem?_eq_getElem]
      have ga3 : atI ((ts.map wt).map V.int) one = some (.int (wt ts[j1])) := by rw [g1 _ (by simp), List.getElem?_eq_getElem (by simpa using hj1)]; simp
      have ga4 : atI ((ts.map wt).map V.int) other = some (.int (wt ts[j2])) := by rw [g2 _ (by simp), List.getElem?_eq_getElem (by simpa using hj2)]; simp
      have s7X := s8L.trans hsX
      have t1 := (hall'.2 j1 _ _ (List.getElem?_eq_getElem (hall'.1 ▸ hj1)) (List.getElem?_eq_getElem hj1)).mono (TupS.of s7X)
      have t2 := (hall'.2 j2 _ _ (List.getElem?_eq_getElem (hall'.1 ▸ hj2)) (List.getElem?_eq_getElem hj2)).mono (TupS.of s7X)
      have k1 := hok ts[j1] (List.getElem_mem hj1)
      have k2 := hok ts[j2] (List.getElem_mem hj2)
      have hpX := s7X _ _ hvs'
      have hp7X := s7X _ _ hp7'
      have hn8X := s7X _ _ hn8'
      have hnlX := s7X _ _ hnl
      obtain ⟨hrX, LA, la, hW, hLA, hkk, hla⟩ := kd.mono s7X
      refine x_gtup2 (SqT.of (hsX _ _ hb)) ?_
      dsimp only [List.set]
      walk_at "go"
      refine x_mtC hrX ML rfl ?_
      walk_at "go"
      refine ⟨ci, cy, cc, cz, hci, hcs, hcc, ?_, fun hnc => ?_⟩
      · rcases hcz with ⟨rfl, rfl⟩ | ⟨rfl, rfl⟩ <;> rfl
      have sU : Same HX (upd HX cc (CellO cc cz)) := same_upd hnc
      refine ⟨r, dx, f, LA, wt, _, _, ts[j1], ts[j2], pages, now, rfl, sU _ _ hrX, hW, hLA HX (fun _ _ h => h) hnc, t1.mono (TupS.of sU), t2.mono (TupS.of sU), k1, k2, hpn2, fun HY hsY => ⟨hsY _ _ upd_same, ?_⟩⟩
      have sXC : Same HX (cutA HY [cc]) := fun b o e => by
        rw [cutA_ne (ne_of_none e hnc)]
        exact hsY _ _ (sU _ _ e)
      have hn8C := sXC _ _ hn8X
      have hnlC := sXC _ _ hnlX
      walk_at "go"
      rw [decide_eq_true rfl]
      walk_at "go"
      exact ⟨_, _, _, rfl, hsX.trans sXC⟩
    · intro σ HX ⟨v10, v11, v12, hσ, hsX⟩
      subst hσ
      dsimp only
      have s7X := s8L.trans hsX
      have hpX := s7X _ _ hvs'
      have hp7X := s7X _ _ hp7'
      have hn8X := s7X _ _ hn8'
      have hnlX := s7X _ _ hnl
      walk_at "go"
      rename_i pw HY hpw hsY hnY
      have hTh : TL HY pw ts := ⟨vs, hnY, (hall'.mono (TupS.of s7X)).mono (TupS.of hsY)⟩
      have hTp : TL HY p ts := ⟨vs, hsY _ _ hpX, (hall'.mono (TupS.of s7X)).mono (TupS.of hsY)⟩
      obtain ⟨hrX, LA, la, hW, hLA, hkk, hla⟩ := kd.mono (s7X.trans hsY)
      have hp7Y := hsY _ _ hp7X
      refine x_mtC hrX MC rfl ?_
      walk_at "go"
      refine ⟨ci, cy, cc, cz, hci, hcs, hcc, ?_, fun hnc => ?_⟩
      · rcases hcz with ⟨rfl, rfl⟩ | ⟨rfl, rfl⟩ <;> rfl
      have sU : Same HY (upd HY cc (CellO cc cz)) := same_upd hnc
      have hRob : RuleOb P w K mg base 17 (fun _ _ t u => decide (wt t < wt u)) (upd HY cc (CellO cc cz)) (r :: la) r := RuleOb.up (rob_Weighed T (sU _ _ hrX) hW (hLA HY (fun _ _ h => h) hnc) hkk (hla HY (fun _ _ h => h) hnc)) (by decide)
      refine ⟨r, pw, pages, now, ts, _, _, rfl, hRob, hTh.mono sU, hne, hok, hL, hpn2, fun HZ hsZ => ⟨hsZ _ _ upd_same, ?_⟩⟩
      have sYC : Same HY (cutA HZ [cc]) := fun b o e => by
        rw [cutA_ne (ne_of_none e hnc)]
        exact hsZ _ _ (sU _ _ e)
      have hTp2 := hTp.mono sYC
      have hTh2 := hTh.mono sYC
      have hn8C := sYC _ _ (hsY _ _ hn8X)
      have hnlC := sYC _ _ (hsY _ _ hnlX)
      walk_at "go"
      refine x_first (f := wt) hTp2 (SqL.of hnlC) hne fun HF hsF => ?_
      walk_at "go"
      refine x_iteD (fun h => ?_) (fun h => absurd rfl h)
      walk_at "go"
      refine TL.ne (hTh2.mono hsF) (hTp2.mono hsF) ?_
      walk_at "go"
      exact ⟨_, _, _, _, _, rfl, ((hs16.trans s7X).trans hsY).trans (sYC.trans hsF)⟩
  · intro σ H16 ⟨v6, v10, v11, v12, v13, hσ, hs16⟩
    subst hσ
    dsimp only
    walk_at "go"
    exact q H16
end
theorem txt_of {l : PySem.W.OpenLaw} {w : World} {K : PySem.W.Frag} {h : Heap} {mg : Str → Option Value} {fa : Addr} {A : List Addr} {A2 : List Addr} (X : K.In h) (G : h.Ns mainGlobals mg) (hfa : mg "law" = some (.ref fa)) (c : SaysK fsK fnK K A) :
    ∃ fd : FuncData, (∀ (s : Shared) (v : Value), BindsTo s fd ⟨[v], []⟩ [("_law_script", v)]) ∧ ∀ base : Heap, K.In base → base.Ns mainGlobals mg → (∀ p ∈ csOf csK A A2, TabB base mg p.1 p.2) → FnOk l.prog w K mg base (L2.CX l.prog w) 20 fa fd ["_law_script"] (spLaw K (csOf csK A A2)) := by
  have hh := c.facts
  unfold fsK at hh
  obtain ⟨hc0, hh⟩ := He.ba hh
  obtain ⟨a__law_cell_at, a__law_whole, a__law_now, a__law_tallies, a__law_first, a__law_factors, a__law_sum, a_law, lk_law, aC_Rule, pg_Rule, hd_Rule, po_Rule, sa_Rule, mi_Rule, kc_Rule, oi_Rule, at_Rule_goes_ahead, fn_Rule_goes_ahead, at_Rule_choose, fn_Rule_choose, aC_Weighed, pg_Weighed, hd_Weighed, po_Weighed⟩ := fsK0_ok hc0
  obtain ⟨sa_Weighed, na_Weighed_weigh, at_Weighed_goes_ahead, fn_Weighed_goes_ahead, at_Weighed_choose, at_Weighed_init, fn_Weighed_init, mi_Weighed, kc_Weighed, z_len, z_isinstance, z_min, z_sum, z_int, z_list, z_tuple, z_bool, z_range, z_zip⟩ := fsK1_ok hh
  have e := hfa.symm.trans (PySem.W.mg_of X G a_law)
  cases e
  obtain ⟨fd_Rule_goes_ahead, D_Rule_goes_ahead⟩ := c.def_ 0 (d := ⟨6, "goes_ahead", "Rule.goes_ahead", defArgs s_Rule_goes_ahead, defBody s_Rule_goes_ahead, defScope s_Rule_goes_ahead, []⟩) rfl
  have k_Rule_goes_ahead : PySem.W.keepIn K (.ref (A.getD 6 0)) = true := D_Rule_goes_ahead.kp
  have F_Rule_goes_ahead : Fun K "goes_ahead" "Rule.goes_ahead" s_Rule_goes_ahead (A.getD 6 0) fd_Rule_goes_ahead := funK_of D_Rule_goes_ahead
  have b_Rule_goes_ahead := F_Rule_goes_ahead.binds (ps := ["self", "one", "other", "pages", "now"]) fun _ _ _ _ _ _ us hl => match us, hl with | [_, _, _, _, _], _ => rfl
  obtain ⟨fd_Rule_choose, D_Rule_choose⟩ := c.def_ 1 (d := ⟨7, "choose", "Rule.choose", defArgs s_Rule_choose, defBody s_Rule_choose, defScope s_Rule_choose, []⟩) rfl
  have k_Rule_choose : PySem.W.keepIn K (.ref (A.getD 7 0)) = true := D_Rule_choose.kp
  have F_Rule_choose : Fun K "choose" "Rule.choose" s_Rule_choose (A.getD 7 0) fd_Rule_choose := funK_of D_Rule_choose
  have b_Rule_choose := F_Rule_choose.binds (ps := ["self", "tallies", "pages", "now"]) fun _ _ _ _ _ _ us hl => match us, hl with | [_, _, _, _], _ => rfl
  obtain ⟨fd_Weighed_init, D_Weighed_init⟩ := c.def_ 2 (d := ⟨8, "__init__", "Weighed.__init__", defArgs s_Weighed_init, defBody s_Weighed_init, defScope s_Weighed_init, []⟩) rfl
  have k_Weighed_init : PySem.W.keepIn K (.ref (A.getD 8 0)) = true := D_Weighed_init.kp
  have F_Weighed_init : Fun K "__init__" "Weighed.__init__" s_Weighed_init (A.getD 8 0) fd_Weighed_init := funK_of D_Weighed_init
  have b_Weighed_init := F_Weighed_init.binds (ps := ["self", "weigh"]) fun _ _ _ _ _ _ us hl => match us, hl with | [_, _], _ => rfl
  obtain ⟨fd_Weighed_goes_ahead, D_Weighed_goes_ahead⟩ := c.def_ 3 (d := ⟨9, "goes_ahead", "Weighed.goes_ahead", defArgs s_Weighed_goes_ahead, defBody s_Weighed_goes_ahead, defScope s_Weighed_goes_ahead, []⟩) rfl
  have k_Weighed_goes_ahead : PySem.W.keepIn K (.ref (A.getD 9 0)) = true := D_Weighed_goes_ahead.kp
  have F_Weighed_goes_ahead : Fun K "goes_ahead" "Weighed.goes_ahead" s_Weighed_goes_ahead (A.getD 9 0) fd_Weighed_goes_ahead := funK_of D_Weighed_goes_ahead
  have b_Weighed_goes_ahead := F_Weighed_goes_ahead.binds (ps := ["self", "one", "other", "pages", "now"]) fun _ _ _ _ _ _ us hl => match us, hl with | [_, _, _, _, _], _ => rfl
  obtain ⟨fd__law_cell_at, D__law_cell_at⟩ := c.def_ 4 (d := ⟨10, "_law_cell_at", "_law_cell_at", defArgs s__law_cell_at, defBody s__law_cell_at, defScope s__law_cell_at, []⟩) rfl
  have k__law_cell_at : PySem.W.keepIn K (.ref (A.getD 10 0)) = true := D__law_cell_at.kp
  have F__law_cell_at : Fun K "_law_cell_at" "_law_cell_at" s__law_cell_at (A.getD 10 0) fd__law_cell_at := funK_of D__law_cell_at
  have b__law_cell_at := F__law_cell_at.binds (ps := ["_law_script", "_law_k"]) fun _ _ _ _ _ _ us hl => match us, hl with | [_, _], _ => rfl
  obtain ⟨fd__law_whole, D__law_whole⟩ := c.def_ 5 (d := ⟨11, "_law_whole", "_law_whole", defArgs s__law_whole, defBody s__law_whole, defScope s__law_whole, []⟩) rfl
  have k__law_whole : PySem.W.keepIn K (.ref (A.getD 11 0)) = true := D__law_whole.kp
  have F__law_whole : Fun K "_law_whole" "_law_whole" s__law_whole (A.getD 11 0) fd__law_whole := funK_of D__law_whole
  have b__law_whole := F__law_whole.binds (ps := ["_law_found"]) fun _ _ _ _ _ _ us hl => match us, hl with | [_], _ => rfl
  obtain ⟨fd__law_now, D__law_now⟩ := c.def_ 6 (d := ⟨12, "_law_now", "_law_now", defArgs s__law_now, defBody s__law_now, defScope s__law_now, []⟩) rfl
  have k__law_now : PySem.W.keepIn K (.ref (A.getD 12 0)) = true := D__law_now.kp
  have F__law_now : Fun K "_law_now" "_law_now" s__law_now (A.getD 12 0) fd__law_now := funK_of D__law_now
  have b__law_now := F__law_now.binds (ps := ["_law_cell"]) fun _ _ _ _ _ _ us hl => match us, hl with | [_], _ => rfl
  obtain ⟨fd__law_tallies, D__law_tallies⟩ := c.def_ 7 (d := ⟨13, "_law_tallies", "_law_tallies", defArgs s__law_tallies, defBody s__law_tallies, defScope s__law_tallies, []⟩) rfl
  have k__law_tallies : PySem.W.keepIn K (.ref (A.getD 13 0)) = true := D__law_tallies.kp
  have F__law_tallies : Fun K "_law_tallies" "_law_tallies" s__law_tallies (A.getD 13 0) fd__law_tallies := funK_of D__law_tallies
  have b__law_tallies := F__law_tallies.binds (ps := ["_law_script", "_law_start", "_law_pages", "_law_now_here"]) fun _ _ _ _ _ _ us hl => match us, hl with | [_, _, _, _], _ => rfl
  obtain ⟨fd__law_first, D__law_first⟩ := c.def_ 8 (d := ⟨14, "_law_first", "_law_first", defArgs s__law_first, defBody s__law_first, defScope s__law_first, []⟩) rfl
  have k__law_first : PySem.W.keepIn K (.ref (A.getD 14 0)) = true := D__law_first.kp
  have F__law_first : Fun K "_law_first" "_law_first" s__law_first (A.getD 14 0) fd__law_first := funK_of D__law_first
  have b__law_first := F__law_first.binds (ps := ["_law_tallies_here", "_law_ranks"]) fun _ _ _ _ _ _ us hl => match us, hl with | [_, _], _ => rfl
  obtain ⟨fd__law_factors, D__law_factors⟩ := c.def_ 9 (d := ⟨15, "_law_factors", "_law_factors", defArgs s__law_factors, defBody s__law_factors, defScope s__law_factors, []⟩) rfl
  have k__law_factors : PySem.W.keepIn K (.ref (A.getD 15 0)) = true := D__law_factors.kp
  have F__law_factors : Fun K "_law_factors" "_law_factors" s__law_factors (A.getD 15 0) fd__law_factors := funK_of D__law_factors
  have b__law_factors := F__law_factors.binds (ps := ["_law_script", "_law_start"]) fun _ _ _ _ _ _ us hl => match us, hl with | [_, _], _ => rfl
  obtain ⟨fd__law_sum, D__law_sum⟩ := c.def_ 10 (d := ⟨16, "_law_sum", "_law_sum", defArgs s__law_sum, defBody s__law_sum, defScope s__law_sum, []⟩) rfl
  have k__law_sum : PySem.W.keepIn K (.ref (A.getD 16 0)) = true := D__law_sum.kp
  have F__law_sum : Fun K "_law_sum" "_law_sum" s__law_sum (A.getD 16 0) fd__law_sum := funK_of D__law_sum
  have b__law_sum := F__law_sum.binds (ps := ["_law_tally", "_law_factors_here"]) fun _ _ _ _ _ _ us hl => match us, hl with | [_, _], _ => rfl
  obtain ⟨fd_law, D_law⟩ := c.def_ 11 (d := ⟨17, "law", "law", defArgs s_law, defBody s_law, defScope s_law, []⟩) rfl
  have k_law : PySem.W.keepIn K (.ref (A.getD 17 0)) = true := D_law.kp
  have F_law : Fun K "law" "law" s_law (A.getD 17 0) fd_law := funK_of D_law
  have b_law := F_law.binds (ps := ["_law_script"]) fun _ _ _ _ _ _ us hl => match us, hl with | [_], _ => rfl
  let T : Txt K mg := {
    a_Rule_goes_ahead := (A.getD 6 0)
    fd_Rule_goes_ahead := fd_Rule_goes_ahead
    F_Rule_goes_ahead := F_Rule_goes_ahead
    bd_Rule_goes_ahead := b_Rule_goes_ahead
    k_Rule_goes_ahead := k_Rule_goes_ahead
    a_Rule_choose := (A.getD 7 0)
    fd_Rule_choose := fd_Rule_choose
    F_Rule_choose := F_Rule_choose
    bd_Rule_choose := b_Rule_choose
    k_Rule_choose := k_Rule_choose
    a_Weighed_init := (A.getD 8 0)
    fd_Weighed_init := fd_Weighed_init
    F_Weighed_init := F_Weighed_init
    bd_Weighed_init := b_Weighed_init
    k_Weighed_init := k_Weighed_init
    a_Weighed_goes_ahead := (A.getD 9 0)
    fd_Weighed_goes_ahead := fd_Weighed_goes_ahead
    F_Weighed_goes_ahead := F_Weighed_goes_ahead
    bd_Weighed_goes_ahead := b_Weighed_goes_ahead
    k_Weighed_goes_ahead := k_Weighed_goes_ahead
    a__law_cell_at := (A.getD 10 0)
    fd__law_cell_at := fd__law_cell_at
    F__law_cell_at := F__law_cell_at
    bd__law_cell_at := b__law_cell_at
    k__law_cell_at := k__law_cell_at
    g__law_cell_at := PySem.W.mg_of X G a__law_cell_at
    a__law_whole := (A.getD 11 0)
    fd__law_whole := fd__law_whole
    F__law_whole := F__law_whole
    bd__law_whole := b__law_whole
    k__law_whole := k__law_whole
    g__law_whole := PySem.W.mg_of X G a__law_whole
    a__law_now := (A.getD 12 0)
    fd__law_now := fd__law_now
    F__law_now := F__law_now
    bd__law_now := b__law_now
    k__law_now := k__law_now
    g__law_now := PySem.W.mg_of X G a__law_now
    a__law_tallies := (A.getD 13 0)
    fd__law_tallies := fd__law_tallies
    F__law_tallies := F__law_tallies
    bd__law_tallies := b__law_tallies
    k__law_tallies := k__law_tallies
    g__law_tallies := PySem.W.mg_of X G a__law_tallies
    a__law_first := (A.getD 14 0)
    fd__law_first := fd__law_first
    F__law_first := F__law_first
    bd__law_first := b__law_first
    k__law_first := k__law_first
    g__law_first := PySem.W.mg_of X G a__law_first
    a__law_factors := (A.getD 15 0)
    fd__law_factors := fd__law_factors
    F__law_factors := F__law_factors
    bd__law_factors := b__law_factors
    k__law_factors := k__law_factors
    g__law_factors := PySem.W.mg_of X G a__law_factors
    a__law_sum := (A.getD 16 0)
    fd__law_sum := fd__law_sum
    F__law_sum := F__law_sum
    bd__law_sum := b__law_sum
    k__law_sum := k__law_sum
    g__law_sum := PySem.W.mg_of X G a__law_sum
    a_law := (A.getD 17 0)
    fd_law := fd_law
    F_law := F_law
    bd_law := b_law
    k_law := k_law
    lc_law := A.getD 29 0
    lt_law := A2.getD 0 0
    lcd_law := fun_code F_law lk_law
    C_Rule := (A.getD 2 0)
    g_Rule := PySem.W.mg_of X G aC_Rule
    cl_Rule := ⟨pg_Rule, hd_Rule, po_Rule, sa_Rule⟩
    mk0_Rule := ⟨mi_Rule, oi_Rule, kc_Rule⟩
    m_Rule_goes_ahead := ⟨at_Rule_goes_ahead, fn_Rule_goes_ahead, k_Rule_goes_ahead⟩
    m_Rule_choose := ⟨at_Rule_choose, fn_Rule_choose, k_Rule_choose⟩
    C_Weighed := (A.getD 3 0)
    g_Weighed := PySem.W.mg_of X G aC_Weighed
    cl_Weighed := ⟨pg_Weighed, hd_Weighed, po_Weighed, sa_Weighed⟩
    na_Weighed_weigh := na_Weighed_weigh
    m_Weighed_goes_ahead := ⟨at_Weighed_goes_ahead, fn_Weighed_goes_ahead, k_Weighed_goes_ahead⟩
    m_Weighed_choose := ⟨at_Weighed_choose, fn_Rule_choose, k_Rule_choose⟩
    mk_Weighed := ⟨mi_Weighed, at_Weighed_init, fn_Weighed_init, kc_Weighed⟩
    b_len := PySem.W.mg_none_of X G z_len
    b_isinstance := PySem.W.mg_none_of X G z_isinstance
    b_min := PySem.W.mg_none_of X G z_min
    b_sum := PySem.W.mg_none_of X G z_sum
    b_int := PySem.W.mg_none_of X G z_int
    b_list := PySem.W.mg_none_of X G z_list
    b_tuple := PySem.W.mg_none_of X G z_tuple
    b_bool := PySem.W.mg_none_of X G z_bool
    b_range := PySem.W.mg_none_of X G z_range
    b_zip := PySem.W.mg_none_of X G z_zip }
  have bl : ∀ (s : Shared) (v : Value), BindsTo s fd_law ⟨[v], []⟩ [("_law_script", v)] := fun s v => by
    have bb := D_law.bindsA (ps := ["_law_script"]) (fun _ _ _ _ _ _ us hl => match us, hl with | [_], _ => rfl) s [v] rfl
    exact bb
  exact ⟨T.fd_law, bl, fun base _ _ hc => ok_law T hc⟩
end My
theorem PySem.Challenge.cw_wornpages_k24_weighed_holds : PySem.Challenge.rw_wornpages_k24_weighed.Holds :=
  My.finE fun X G hfa c => My.txt_of X G hfa c
#print axioms PySem.Challenge.cw_wornpages_k24_weighed_holds
