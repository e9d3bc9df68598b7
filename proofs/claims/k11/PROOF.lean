import PyProof.Rows.All
import Wide.All
import OpenK.AllK
import Wide.FinOn
import HandS.ForMost
import HandS.ForExc
import HandS.Flow
import HandS.Wide
import HandS.WideBits
import HandS.IsInst
import PySem.Challenge.RW_wornpages_k11_marks
set_option Elab.async false
set_option linter.all false
set_option maxRecDepth 100000
set_option maxHeartbeats 4000000
/-! Kit: unified operators, method calls by the receiver's class, and step lemmas for readings. -/
namespace Kit
open PySem PySem.Spec PyProof.Rows L2

section
variable {X : Cx}
/-! ### unified operators -/
abbrev rStrAdd : R2 := fun x y H Q => ∃ i j, x = .str i ∧ y = .str j ∧ i.length + j.length ≤ sizeLine ∧ Q (.str (i ++ j)) H
def uAdd (K : PySem.W.Frag) : R2 := fun x y H Q => rI0 (fun i j => .int (i + j)) x y H Q ∨ (rStrAdd x y H Q ∨ (rCat x y H Q ∨ rCatT K x y H Q))
theorem op_uAdd : OpR X (binaryOp .Add) (uAdd X.K) := op_add.or (op_add_str.or (op_cat.or op_catT))
def uMul : R2 := fun x y H Q => rI CMul (fun i j => .int (i * j)) x y H Q ∨ rRep x y H Q
theorem op_uMul : OpR X (binaryOp .Mult) uMul := op_mul.or op_rep
def uShl : R2 := rI CShl fun i j => .int (i * 2 ^ j.toNat)
theorem op_uShl : OpR X (binaryOp .LShift) uShl := op_shlW
def uEq (K : PySem.W.Frag) : R2 := fun x y H Q => rEq x y H Q ∨ rEqD K x y H Q
theorem op_uEq (hu : X.A.units + 64 < cLine) : OpR X (compareOp .Eq) (uEq X.K) := op_eq.or (op_eqD hu)
def uNe (K : PySem.W.Frag) : R2 := fun x y H Q => rNe x y H Q ∨ rNeD K x y H Q
theorem op_uNe (hu : X.A.units + 64 < cLine) : OpR X (compareOp .NotEq) (uNe X.K) := op_ne.or (op_neD hu)
abbrev rLtI : R2 := rI0 fun i j => .bl (decide (i < j))
def uLt : R2 := rLtI
theorem op_uLt : OpR X (compareOp .Lt) uLt := op_lt
def uIn (K : PySem.W.Frag) : R2 := rIn K false
theorem op_uIn : OpR X (compareOp .In) (uIn X.K) := op_in_seq
def uNotIn (K : PySem.W.Frag) : R2 := rIn K true
theorem op_uNotIn : OpR X (compareOp .NotIn) (uNotIn X.K) := op_notIn_seq
abbrev rIsNon : R2 := fun x y H Q => y = .non ∧ Q (.bl (decide (x = .non))) H
abbrev rIsNotNon : R2 := fun x y H Q => y = .non ∧ Q (.bl (!decide (x = .non))) H

/-! ### calls -/
theorem passL2 : ∀ σ, PassesAt (L2.CX X.prog X.w) X σ ((fun _ => E0) σ) := fun _ _ _ _ _ _ _ h => by
  obtain ⟨_, _, _, _, _, _, _, _, _, _, _, _, z⟩ := h
  exact z.elim
/-- a method of a class, by what it promises -/
structure MO (P : Program) (w : World) (K : PySem.W.Frag) (mg : Str → Option Value) (base : Heap) (CX : CXT) (n : Nat) (C : Addr) (m : Str) (sp : Sp) : Prop where
  ex : ∃ f fd ps, Cls K C ∧ Meth K C m f ∧ FnOk P w K mg base CX n f fd ps sp ∧ Binds K fd ps []
variable {CX : CXT} {k : Nat} {f C : Addr} {fd : FuncData} {ps : List Str} {sp : Sp} {dvs : List V} {ds : List Value} {E : L2.St → XK} {x m : Str} {p pos apos : Pos} {e o : Expr} {es : List Expr} {ta : TE} {t : TA}
/-- o.m(..), by the class that o has -/
def rMethD (X : Cx) (CX : CXT) (n : Nat) (m : Str) (E : XK) (σ : L2.St) (t : TA) : V → Hp → VK → Prop := fun x H1 Q => ∃ a C dx fs sp, x = .ref a ∧ H1 a = some (.ins C dx fs) ∧ fs.lookup m = none ∧
  MO X.prog X.w X.K X.mg X.base CX n C m sp ∧ t σ H1 fun vs H2 => sp (x :: vs) H2 Q E
def tMethD (X : Cx) (CX : CXT) (n : Nat) (m : Str) (E : L2.St → XK) (ta : TE) (t : TA) : TE := fun σ H Q => ta σ H fun x H1 => rMethD X CX n m (E σ) σ t x H1 Q
theorem pe_methD {pl : Sem Bool} (he : PE X o ta) (hr : Room k X.A) (hx : ∀ σ, PassesAt CX X σ (E σ)) (ha : PA X (e :: es) t)
    (hst : starEach (e :: es) X.env = (false, eval e X.env) :: starEach es X.env := by rfl) (hpl : (backTo pos (starEach es X.env)).any (·.1) = false := by rfl)
    (ht : eval (.Call (.Attribute o m apos) (e :: es) [] pos) X.env = (do
      let ov ← eval o X.env
      standAt apos.atName
      let (f, first) ← holding [ov] (getMethod ov m pl)
      callWith pos f first (backTo pos (starEach (e :: es) X.env)) (backToKw pos (keywordEach [] X.env))) := by rfl) :
    PE X (.Call (.Attribute o m apos) (e :: es) [] pos) (tMethD X CX k m E ta t) := by
  refine ⟨fun pins s σ H Q I h => ?_⟩
  refine PySem.W.methodCall_KW (pl := pl) (thn (he.run pins s σ H _ I h) fun u s1 ⟨x, H1, I1, rx, a, C, dx, fs, sp, ex, ea, l, mo, q⟩ => ?_) ht
  subst ex
  obtain rfl : u = Value.ref a := rx
  obtain ⟨f, fd, ps, c, hm, F, hb⟩ := mo.ex
  refine getmeth_ok I1 ea c hm l ?_
  refine PySem.W.callWith_K (first := [.ref a]) (h₀ := X.base) I.ok.mod.kin hm.kp (thn (ha.run pos pins s1 σ H1 _ I1 q) fun us s2 ⟨vs, H2, I2, r, q2⟩ => ⟨I2.kIn, ?_⟩) hst hpl
  exact run_fnS (us := .ref a :: us) (vs := .ref a :: vs) F hr hb (hx σ) I2 (.cons rfl r) q2
theorem pe_methD0 {pl : Sem Bool} (he : PE X o ta) (hr : Room k X.A) (hx : ∀ σ, PassesAt CX X σ (E σ))
    (ht : eval (.Call (.Attribute o m apos) [] [] pos) X.env = (do
      let ov ← eval o X.env
      standAt apos.atName
      let (f, first) ← holding [ov] (getMethod ov m pl)
      callWith pos f first (backTo pos (starEach [] X.env)) (backToKw pos (keywordEach [] X.env))) := by rfl) :
    PE X (.Call (.Attribute o m apos) [] [] pos) (tMethD X CX k m E ta tNil) := by
  refine ⟨fun pins s σ H Q I h => ?_⟩
  refine PySem.W.methodCall_KW (pl := pl) (thn (he.run pins s σ H _ I h) fun u s1 ⟨x, H1, I1, rx, a, C, dx, fs, sp, ex, ea, l, mo, q⟩ => ?_) ht
  subst ex
  obtain rfl : u = Value.ref a := rx
  obtain ⟨f, fd, ps, c, hm, F, hb⟩ := mo.ex
  refine getmeth_ok I1 ea c hm l ?_
  exact PySem.W.callWith_K0 (first := [.ref a]) I1.kIn hm.kp (run_fnS (us := [.ref a]) (vs := [.ref a]) F hr hb (hx σ) I1 (.cons rfl .nil) q)
theorem pe_callS0 (F : FnOk X.prog X.w X.K X.mg X.base CX k f fd ps sp) (hr : Room k X.A) (hg : Gl X x) (hm : X.mg x = some (.ref f)) (hk : PySem.W.keepIn X.K (.ref f) = true) (hb : Binds X.K fd ps []) (hx : ∀ σ, PassesAt CX X σ (E σ))
    (hdb : (x == ("__debug__" : Str)) = false := by decide) : PE X (.Call (.Name x p) [] [] pos) (tCallS sp E tNil) := by
  refine ⟨fun pins s σ H Q I h => ?_⟩
  refine wpAny_Call_Name_kw (ld_glob I hg hm ?_ hdb)
  exact PySem.W.callWith_K0 I.kIn hk (run_fnS (us := []) F hr hb (hx σ) I .nil h)
/-- C(..), what is raised at the slots -/
def tMakeS (C : Addr) (sp : Sp) (dvs : List V) (E : L2.St → XK) (t : TA) : TE := fun σ H Q => t σ H fun vs H1 => ∀ x dx, H1 x = none → H1 dx = none → dx ≠ x →
  sp (.ref x :: (vs ++ dvs)) (upd (upd H1 dx (.own x)) x (.ins C dx [])) (fun v H2 => v = .non ∧ Q (.ref x) H2) (E σ)
end

/-! ### steps: statements -/
section
variable {σ : L2.St} {H H1 : Hp} {K : PySem.W.Frag} {D : Ends} {t u : TS} {te ta tb : TE} {c : TT} {i : Nat} {v x y : V} {Q : VK} {QB : Bool → Hp → Prop} {A B : Prop} {b : Bool}
theorem x_seq (h : t { D with nx := u D } σ H) : tSeq t u D σ H := h
theorem x_seqA {g : TG} (h : tAsg te g { D with nx := u D } σ H) : tSeq (tAsg te g) u D σ H := h
theorem x_seqD (h : tDrop te { D with nx := u D } σ H) : tSeq (tDrop te) u D σ H := h
theorem x_seqF {f : Str} (h : sFld K ta te f { D with nx := u D } σ H) : tSeq (sFld K ta te f) u D σ H := h
theorem x_seqFA {f : Str} {rd : V → V → Hp → VK → Prop} (h : sFldAug K ta te rd f { D with nx := u D } σ H) : tSeq (sFldAug K ta te rd f) u D σ H := h
theorem x_seqAug {ti : TIp} (h : tAug i te ti { D with nx := u D } σ H) : tSeq (tAug i te ti) u D σ H := h
theorem x_next (q : D.nx σ H) : tNext D σ H := q
theorem x_asg {g : TG} (h : te σ H fun x H1 => g x σ H1 D.nx) : tAsg te g D σ H := h
theorem x_gname {QS : L2.St → Hp → Prop} (q : QS (σ.set i (some v)) H) : gName i v σ H QS := q
theorem x_ret (h : te σ H D.rt) : tRet te D σ H := h
theorem x_retN (h : D.rt .non H) : tRetN D σ H := h
theorem x_drop (h : te σ H fun _ H1 => D.nx σ H1) : tDrop te D σ H := h
theorem x_if (h : c σ H fun b H1 => if b = true then t D σ H1 else u D σ H1) : tIfS c t u D σ H := h
theorem x_iteT (h : A) : if true = true then A else B := iteT h
theorem x_iteF (h : B) : if false = true then A else B := iteF h
theorem x_iteD {p : Prop} [Decidable p] (h1 : p → A) (h2 : ¬ p → B) : if decide p = true then A else B := by
  by_cases h : p
  · rw [decide_eq_true h]; exact iteT (h1 h)
  · rw [decide_eq_false h]; exact iteF (h2 h)
theorem x_iteN (h : if b = true then B else A) : if (!b) = true then A else B := by
  cases b with
  | true => exact h
  | false => exact h
theorem x_iteB (h1 : b = true → A) (h2 : b = false → B) : if b = true then A else B := by
  cases b with
  | true => exact iteT (h1 rfl)
  | false => exact iteF (h2 rfl)
/-- ways that join: J holds at the end of t on every way -/
theorem x_join (J : L2.St → Hp → Prop) (h1 : ∀ R : L2.St → Hp → Prop, (∀ σ' H', J σ' H' → R σ' H') → t { D with nx := R } σ H) (h2 : ∀ σ' H', J σ' H' → u D σ' H') : tSeq t u D σ H := h1 (u D) h2
/-! ### steps: expressions -/
theorem x_var (h : σ[i]? = some (some v)) (q : Q v H) : tVar i σ H Q := ⟨v, h, q⟩
theorem x_c (q : Q v H) : tC v σ H Q := q
theorem x_op {r : R2} (h : ta σ H fun x H1 => tb σ H1 fun y H2 => r x y H2 Q) : tOp r ta tb σ H Q := h
theorem x_un {r : V → Hp → VK → Prop} (h : ta σ H fun x H1 => r x H1 Q) : tUn r ta σ H Q := h
theorem x_cb {r : List V → Hp → VK → Prop} {t : TA} (h : t σ H fun vs H1 => r vs H1 Q) : tCB r t σ H Q := h
theorem x_nil {QA : List V → Hp → Prop} (q : QA [] H) : tNil σ H QA := q
theorem x_cons {QA : List V → Hp → Prop} {tr : TA} (h : ta σ H fun x H1 => tr σ H1 fun xs H2 => QA (x :: xs) H2) : tCons ta tr σ H QA := h
theorem x_callS {sp : Sp} {E : L2.St → XK} {t : TA} (h : t σ H fun vs H1 => sp vs H1 Q (E σ)) : tCallS sp E t σ H Q := h
theorem x_ifExp (h : c σ H fun c H1 => if c = true then ta σ H1 Q else tb σ H1 Q) : tIf c ta tb σ H Q := h
theorem x_test (h : te σ H fun x H' => ∃ k, x = .bl k ∧ QB k H') : tTest te σ H QB := h
theorem x_tB (h : te σ H fun x H' => ∃ k, x = .bl k ∧ QB k H') : tB te σ H QB := h
theorem x_and {t u : TT} (h : t σ H fun c H1 => if c = true then u σ H1 QB else QB false H1) : tAnd t u σ H QB := h
theorem x_or {t u : TT} (h : t σ H fun c H1 => if c = true then QB true H1 else u σ H1 QB) : tOr t u σ H QB := h
theorem x_not {t : TT} (h : t σ H fun c H1 => QB (!c) H1) : tNot t σ H QB := h
theorem x_andT (h : ta σ H fun x H1 => ∃ k, TruV K x H1 k ∧ if k = true then tb σ H1 Q else Q x H1) : tAndT K ta tb σ H Q := h
theorem x_orT (h : ta σ H fun x H1 => ∃ k, TruV K x H1 k ∧ if k = true then Q x H1 else tb σ H1 Q) : tOrT K ta tb σ H Q := h
theorem x_notT (h : ta σ H fun x H1 => ∃ k, TruV K x H1 k ∧ Q (.bl (!k)) H1) : tNotT K ta σ H Q := h
theorem x_truB (q : A) {P : Bool → Prop} (h : P b) : ∃ k, TruV K (.bl b) H k ∧ P k := ⟨b, rfl, h⟩
theorem x_truBl {P : Bool → Prop} (h : P b) : ∃ k, TruV K (.bl b) H k ∧ P k := ⟨b, rfl, h⟩
theorem x_isbl {P : Bool → Prop} (h : P b) : ∃ k, V.bl b = .bl k ∧ P k := ⟨b, rfl, h⟩
theorem x_chain {r r' : R2} {tc : TE} (h : ta σ H fun x H1 => tb σ H1 fun y H2 => r x y H2 fun z H3 => ∃ k, z = .bl k ∧ if k = true then tc σ H3 fun z' H4 => r' y z' H4 Q else Q (.bl false) H3) : tChain r r' ta tb tc σ H Q := h
/-! ### steps: operators on values -/
variable {m n : Int} {s1 s2 : Str}
theorem x_addI (q : Q (.int (m + n)) H) : uAdd K (.int m) (.int n) H Q := .inl ⟨m, n, rfl, rfl, q⟩
theorem x_addS (q : Q (.str (s1 ++ s2)) H) (h : s1.length + s2.length ≤ sizeLine) : uAdd K (.str s1) (.str s2) H Q := .inr (.inl ⟨s1, s2, rfl, rfl, h, q⟩)
theorem x_I0 {g : Int → Int → V} (q : Q (g m n) H) : rI0 g (.int m) (.int n) H Q := ⟨m, n, rfl, rfl, q⟩
theorem x_I {C : Int → Int → Prop} {g : Int → Int → V} (q : Q (g m n) H) (h : C m n) : rI C g (.int m) (.int n) H Q := ⟨m, n, rfl, rfl, h, q⟩
theorem x_lt (q : Q (.bl (decide (m < n))) H) : uLt (.int m) (.int n) H Q := ⟨m, n, rfl, rfl, q⟩
theorem x_mulI (q : Q (.int (m * n)) H) (h : CMul m n) : uMul (.int m) (.int n) H Q := .inl ⟨m, n, rfl, rfl, h, q⟩
theorem same_upd {o : HO} {p : Addr} (h : H p = none) : Same H (upd H p o) := fun b u e => by rw [upd_ne (ne_of_none e h)]; exact e
/-- a new object: what is asked of it -/
abbrev New (H : Hp) (Q : VK) (o : HO) : Prop := ∀ p H1, H p = none → Same H H1 → H1 p = some o → Q (.ref p) H1
theorem New.mk {o : HO} (h : New H Q o) : ∀ p, H p = none → Q (.ref p) (upd H p o) := fun p hp => h p _ hp (same_upd hp) upd_same
def nwL (Q : VK) : List V → Hp → Prop := fun xs H1 => xs.length ≤ sizeLine ∧ ∀ p, H1 p = none → Q (.ref p) (upd H1 p (.lst xs))
def nwT (Q : VK) : List V → Hp → Prop := fun xs H1 => xs.length ≤ sizeLine ∧ ∀ p, H1 p = none → Q (.ref p) (upd H1 p (.tup xs))
theorem x_nwL {xs : List V} (h : New H Q (.lst xs)) (hl : xs.length ≤ sizeLine) : nwL Q xs H := ⟨hl, h.mk⟩
theorem x_nwT {xs : List V} (h : New H Q (.tup xs)) (hl : xs.length ≤ sizeLine) : nwT Q xs H := ⟨hl, h.mk⟩
theorem x_addL {l l' : Addr} {xs ys : List V} (h1 : H l = some (.lst xs)) (h2 : H l' = some (.lst ys)) (q : New H Q (.lst (xs ++ ys))) (hl : xs.length + ys.length ≤ sizeLine) : uAdd K (.ref l) (.ref l') H Q :=
  .inr (.inr (.inl ⟨l, l', xs, ys, rfl, rfl, h1, h2, hl, q.mk⟩))
theorem x_rep {l : Addr} {xs : List V} (h1 : H l = some (.lst xs)) (q : New H Q (.lst (List.replicate n.toNat xs).flatten)) (h2 : n < 2 ^ 63) (h0 : 0 ≤ n) (hl : xs.length * n.toNat ≤ sizeLine) : uMul (.ref l) (.int n) H Q :=
  .inr ⟨l, n, xs, rfl, rfl, h1, Int.le_trans (by decide) h0, h2, hl, q.mk⟩
theorem cdivW {i j : Int} (h : 0 < j) (h2 : j < 10 ^ 60) : CDivW i j := by
  refine wide_div (b := 200) h ?_ (by decide) (by decide)
  have : (2:Nat) ^ 200 = 1606938044258990275541962092341162602522202993782792835301376 := by decide
  omega
theorem x_shl (q : Q (.int (m * 2 ^ n.toNat)) H) (h : CShl m n) : uShl (.int m) (.int n) H Q := ⟨m, n, rfl, rfl, h, q⟩
theorem x_U {g : Int → V} (q : Q (g m) H) : rU g (.int m) H Q := ⟨m, rfl, q⟩
theorem x_eqI (q : Q (.bl (decide (m = n))) H) : uEq K (.int m) (.int n) H Q := .inl ⟨rfl, by rw [dec_int, ← Bool.beq_eq_decide_eq] at *; exact q⟩
theorem x_neI (q : Q (.bl (!decide (m = n))) H) : uNe K (.int m) (.int n) H Q := .inl ⟨rfl, by rw [dec_int, ← Bool.beq_eq_decide_eq] at *; exact q⟩
theorem x_eqB {b c : Bool} (q : Q (.bl (decide (b = c))) H) : uEq K (.bl b) (.bl c) H Q := .inl ⟨rfl, by rw [dec_bl, ← Bool.beq_eq_decide_eq] at *; exact q⟩
theorem x_neB {b c : Bool} (q : Q (.bl (!decide (b = c))) H) : uNe K (.bl b) (.bl c) H Q := .inl ⟨rfl, by rw [dec_bl, ← Bool.beq_eq_decide_eq] at *; exact q⟩
theorem x_eqS (q : Q (.bl (decide (s1 = s2))) H) : uEq K (.str s1) (.str s2) H Q := .inl ⟨rfl, by rw [dec_str] at *; rw [show decide (s1 = s2) = (s1 == s2) from by rw [Bool.beq_eq_decide_eq]] at q; exact q⟩
theorem x_tup {t : TA} (h : t σ H (nwT Q)) : tTup t σ H Q := h
theorem x_lst {t : TA} (h : t σ H (nwL Q)) : tLst t σ H Q := h
/-! ### steps: sequences -/
variable {p : Addr} {xs : List V} {ns : List Int}
theorem atI_getD {α : Type} {xs : List α} {i : Int} (d : α) (h0 : 0 ≤ i) (h1 : i < xs.length) : atI xs i = some (xs.getD i.toNat d) := by
  obtain ⟨j, rfl⟩ : ∃ j : Nat, i = (j : Int) := ⟨i.toNat, by omega⟩
  have hj : j < xs.length := by omega
  exact atI_nat (by simp [hj])
theorem x_ixI (h : SqL K H p (ns.map V.int)) (q : Q (.int (ns.getD n.toNat 0)) H) (h0 : 0 ≤ n) (h1 : n < ns.length) : rIx K (.ref p) (.int n) H Q :=
  .inl ⟨p, _, n, _, rfl, rfl, h, by
    rw [atI_getD (.int 0) h0 (by rw [List.length_map]; exact h1)]
    have hn : n.toNat < ns.length := by omega
    simp [hn], q⟩
theorem x_ixL (h : SqL K H p xs) (q : Q (xs.getD n.toNat .non) H) (h0 : 0 ≤ n) (h1 : n < xs.length) : rIx K (.ref p) (.int n) H Q :=
  .inl ⟨p, _, n, _, rfl, rfl, h, atI_getD _ h0 h1, q⟩
theorem x_ixT (h : SqT K H p xs) (ha : atI xs n = some v) (q : Q v H) : rIx K (.ref p) (.int n) H Q :=
  .inr (.inl ⟨p, _, n, _, rfl, rfl, h, ha, q⟩)
end

/-! ### built-in calls -/
section
variable {X : Cx}
def uMax (K : PySem.W.Frag) : List V → Hp → VK → Prop := fun xs H Q => (∃ i j, xs = [.int i, .int j] ∧ Q (.int (if j > i then j else i)) H) ∨ rMax K xs H Q
theorem cr_umax (hc : X.calm = true := by rfl) : CallR X (.builtin "max") (uMax X.K) := (call_max2 hc).or (cr_max hc)
def uMin (K : PySem.W.Frag) : List V → Hp → VK → Prop := fun xs H Q => (∃ i j, xs = [.int i, .int j] ∧ Q (.int (if j < i then j else i)) H) ∨ rMin K xs H Q
theorem cr_umin (hc : X.calm = true := by rfl) : CallR X (.builtin "min") (uMin X.K) := (call_min2 hc).or (cr_min hc)
theorem cr_usum (hc : X.calm = true := by rfl) : CallR X (.builtin "sum") (rSum X.K) := cr_sum hc
theorem cr_uall (hc : X.calm = true := by rfl) : CallR X (.builtin "all") (rAll X.K) := cr_all hc
theorem cr_uany (hc : X.calm = true := by rfl) : CallR X (.builtin "any") (rAny X.K) := cr_any hc
def uList (K : PySem.W.Frag) : List V → Hp → VK → Prop := fun xs H Q => ∃ p ys, xs = [.ref p] ∧ (SqL K H p ys ∨ SqT K H p ys) ∧ ∀ l, H l = none → Q (.ref l) (upd H l (.lst ys))
theorem ct_list : CallR X (.type "list") (uList X.K) := call_list_of
theorem ct_int : CallR X (.type "int") (fun xs H Q => (∃ i, xs = [.int i] ∧ Q (.int i) H) ∨ ∃ k, xs = [.bl k] ∧ Q (.int (if k then 1 else 0)) H) := call_int1
theorem bt_max : bootBuiltins "max" = some (.builtin "max") := by decide +kernel
theorem bt_min : bootBuiltins "min" = some (.builtin "min") := by decide +kernel
theorem bt_sum : bootBuiltins "sum" = some (.builtin "sum") := by decide +kernel
theorem bt_all : bootBuiltins "all" = some (.builtin "all") := by decide +kernel
theorem bt_any : bootBuiltins "any" = some (.builtin "any") := by decide +kernel
theorem bt_sorted : bootBuiltins "sorted" = some (.builtin "sorted") := by decide +kernel
def uLen (K : PySem.W.Frag) : List V → Hp → VK → Prop := fun xs H Q => (∃ p ys, xs = [.ref p] ∧ (SqL K H p ys ∨ SqT K H p ys) ∧ Q (.int ys.length) H) ∨ (∃ z, xs = [.str z] ∧ z.length ≤ sizeLine ∧ Q (.int z.length) H)
theorem cr_ulen : CallR X (.builtin "len") (uLen X.K) := call_len_seq.or call_len_str
def uIsi (K : PySem.W.Frag) : List V → Hp → VK → Prop := rIsi K
theorem cr_uisinstance : CallR X (.builtin "isinstance") (uIsi X.K) := call_isi
def uStr : List V → Hp → VK → Prop := fun xs H Q => ∃ i, xs = [.int i] ∧ i.natAbs.log2 < 1920 ∧ Q (.str (toString i)) H
theorem ct_str : CallR X (.type "str") uStr := call_str_int
theorem bt_isinstance : bootBuiltins "isinstance" = some (.builtin "isinstance") := by decide +kernel
theorem bt_int : bootBuiltins "int" = some (.type "int") := by decide +kernel
theorem bt_bool : bootBuiltins "bool" = some (.type "bool") := by decide +kernel
theorem bt_str : bootBuiltins "str" = some (.type "str") := by decide +kernel
theorem bt_list : bootBuiltins "list" = some (.type "list") := by decide +kernel
theorem bt_tuple : bootBuiltins "tuple" = some (.type "tuple") := by decide +kernel
theorem bt_dict : bootBuiltins "dict" = some (.type "dict") := by decide +kernel
theorem bt_len : bootBuiltins "len" = some (.builtin "len") := by decide +kernel
end
section
variable {σ : L2.St} {H : Hp} {K : PySem.W.Frag} {Q : VK} {p : Addr} {xs : List V} {n : Int} {v : V}
theorem x_lenL (h : SqL K H p xs) (q : Q (.int xs.length) H) : uLen K [.ref p] H Q := .inl ⟨p, xs, rfl, .inl h, q⟩
theorem x_lenM {α : Type} {l : List α} {f : α → V} (h : SqL K H p (l.map f)) (q : Q (.int l.length) H) : uLen K [.ref p] H Q := .inl ⟨p, _, rfl, .inl h, by rw [List.length_map]; exact q⟩
theorem x_lenT (h : SqT K H p xs) (q : Q (.int xs.length) H) : uLen K [.ref p] H Q := .inl ⟨p, xs, rfl, .inr h, q⟩
/-- the built-in class of a value -/
def tyN : V → Option String
  | .non => some "NoneType" | .bl _ => some "bool" | .int _ => some "int" | .str _ => some "str" | .flt _ => some "float" | _ => none
theorem x_isiV {c : String} {t : String} {b : Bool} (ht : tyN v = some t) (hk : kitB t c = some b) (q : Q (.bl b) H) : uIsi K [v, .ty c] H Q := by
  have ty : TyX K H v (.type t) := by
    cases v <;> simp only [tyN, Option.some.injEq, reduceCtorEq] at ht <;> subst ht
    · exact .base .non
    · exact .base (.bl _)
    · exact .base (.int _)
    · exact .base (.str _)
    · exact .base (.flt _)
  exact ⟨v, .ty c, .type t, .type c, b, rfl, .ty c, ty, kit_ty hk, q⟩
theorem x_isiR {c t : String} {b : Bool} (ty : TyX K H (.ref p) (.type t)) (hk : kitB t c = some b) (q : Q (.bl b) H) : uIsi K [.ref p, .ty c] H Q :=
  ⟨.ref p, .ty c, .type t, .type c, b, rfl, .ty c, ty, kit_ty hk, q⟩
theorem x_isiNon_int (q : Q (.bl false) H) : uIsi K [V.non, .ty "int"] H Q := x_isiV rfl (by decide +kernel) q
theorem x_isiNon_bool (q : Q (.bl false) H) : uIsi K [V.non, .ty "bool"] H Q := x_isiV rfl (by decide +kernel) q
theorem x_isiNon_str (q : Q (.bl false) H) : uIsi K [V.non, .ty "str"] H Q := x_isiV rfl (by decide +kernel) q
theorem x_isiNon_list (q : Q (.bl false) H) : uIsi K [V.non, .ty "list"] H Q := x_isiV rfl (by decide +kernel) q
theorem x_isiNon_tuple (q : Q (.bl false) H) : uIsi K [V.non, .ty "tuple"] H Q := x_isiV rfl (by decide +kernel) q
theorem x_isiNon_dict (q : Q (.bl false) H) : uIsi K [V.non, .ty "dict"] H Q := x_isiV rfl (by decide +kernel) q
theorem x_isiBl_int {b : Bool} (q : Q (.bl true) H) : uIsi K [(V.bl b), .ty "int"] H Q := x_isiV rfl (by decide +kernel) q
theorem x_isiBl_bool {b : Bool} (q : Q (.bl true) H) : uIsi K [(V.bl b), .ty "bool"] H Q := x_isiV rfl (by decide +kernel) q
theorem x_isiBl_str {b : Bool} (q : Q (.bl false) H) : uIsi K [(V.bl b), .ty "str"] H Q := x_isiV rfl (by decide +kernel) q
theorem x_isiBl_list {b : Bool} (q : Q (.bl false) H) : uIsi K [(V.bl b), .ty "list"] H Q := x_isiV rfl (by decide +kernel) q
theorem x_isiBl_tuple {b : Bool} (q : Q (.bl false) H) : uIsi K [(V.bl b), .ty "tuple"] H Q := x_isiV rfl (by decide +kernel) q
theorem x_isiBl_dict {b : Bool} (q : Q (.bl false) H) : uIsi K [(V.bl b), .ty "dict"] H Q := x_isiV rfl (by decide +kernel) q
theorem x_isiInt_int (q : Q (.bl true) H) : uIsi K [(V.int n), .ty "int"] H Q := x_isiV rfl (by decide +kernel) q
theorem x_isiInt_bool (q : Q (.bl false) H) : uIsi K [(V.int n), .ty "bool"] H Q := x_isiV rfl (by decide +kernel) q
theorem x_isiInt_str (q : Q (.bl false) H) : uIsi K [(V.int n), .ty "str"] H Q := x_isiV rfl (by decide +kernel) q
theorem x_isiInt_list (q : Q (.bl false) H) : uIsi K [(V.int n), .ty "list"] H Q := x_isiV rfl (by decide +kernel) q
theorem x_isiInt_tuple (q : Q (.bl false) H) : uIsi K [(V.int n), .ty "tuple"] H Q := x_isiV rfl (by decide +kernel) q
theorem x_isiInt_dict (q : Q (.bl false) H) : uIsi K [(V.int n), .ty "dict"] H Q := x_isiV rfl (by decide +kernel) q
theorem x_isiStr_int {z : Str} (q : Q (.bl false) H) : uIsi K [(V.str z), .ty "int"] H Q := x_isiV rfl (by decide +kernel) q
theorem x_isiStr_bool {z : Str} (q : Q (.bl false) H) : uIsi K [(V.str z), .ty "bool"] H Q := x_isiV rfl (by decide +kernel) q
theorem x_isiStr_str {z : Str} (q : Q (.bl true) H) : uIsi K [(V.str z), .ty "str"] H Q := x_isiV rfl (by decide +kernel) q
theorem x_isiStr_list {z : Str} (q : Q (.bl false) H) : uIsi K [(V.str z), .ty "list"] H Q := x_isiV rfl (by decide +kernel) q
theorem x_isiStr_tuple {z : Str} (q : Q (.bl false) H) : uIsi K [(V.str z), .ty "tuple"] H Q := x_isiV rfl (by decide +kernel) q
theorem x_isiStr_dict {z : Str} (q : Q (.bl false) H) : uIsi K [(V.str z), .ty "dict"] H Q := x_isiV rfl (by decide +kernel) q
theorem x_isiLst_int (h : H p = some (.lst xs)) (q : Q (.bl false) H) : uIsi K [.ref p, .ty "int"] H Q := x_isiR (.base (.lst h)) (by decide +kernel) q
theorem x_isiLst_bool (h : H p = some (.lst xs)) (q : Q (.bl false) H) : uIsi K [.ref p, .ty "bool"] H Q := x_isiR (.base (.lst h)) (by decide +kernel) q
theorem x_isiLst_str (h : H p = some (.lst xs)) (q : Q (.bl false) H) : uIsi K [.ref p, .ty "str"] H Q := x_isiR (.base (.lst h)) (by decide +kernel) q
theorem x_isiLst_list (h : H p = some (.lst xs)) (q : Q (.bl true) H) : uIsi K [.ref p, .ty "list"] H Q := x_isiR (.base (.lst h)) (by decide +kernel) q
theorem x_isiLst_tuple (h : H p = some (.lst xs)) (q : Q (.bl false) H) : uIsi K [.ref p, .ty "tuple"] H Q := x_isiR (.base (.lst h)) (by decide +kernel) q
theorem x_isiLst_dict (h : H p = some (.lst xs)) (q : Q (.bl false) H) : uIsi K [.ref p, .ty "dict"] H Q := x_isiR (.base (.lst h)) (by decide +kernel) q
theorem x_isiTup_int (h : H p = some (.tup xs)) (q : Q (.bl false) H) : uIsi K [.ref p, .ty "int"] H Q := x_isiR (.base (.tup h)) (by decide +kernel) q
theorem x_isiTup_bool (h : H p = some (.tup xs)) (q : Q (.bl false) H) : uIsi K [.ref p, .ty "bool"] H Q := x_isiR (.base (.tup h)) (by decide +kernel) q
theorem x_isiTup_str (h : H p = some (.tup xs)) (q : Q (.bl false) H) : uIsi K [.ref p, .ty "str"] H Q := x_isiR (.base (.tup h)) (by decide +kernel) q
theorem x_isiTup_list (h : H p = some (.tup xs)) (q : Q (.bl false) H) : uIsi K [.ref p, .ty "list"] H Q := x_isiR (.base (.tup h)) (by decide +kernel) q
theorem x_isiTup_tuple (h : H p = some (.tup xs)) (q : Q (.bl true) H) : uIsi K [.ref p, .ty "tuple"] H Q := x_isiR (.base (.tup h)) (by decide +kernel) q
theorem x_isiTup_dict (h : H p = some (.tup xs)) (q : Q (.bl false) H) : uIsi K [.ref p, .ty "dict"] H Q := x_isiR (.base (.tup h)) (by decide +kernel) q
theorem x_isiDk_int {kvs : List (Key × V)} (h : H p = some (.dK kvs)) (q : Q (.bl false) H) : uIsi K [.ref p, .ty "int"] H Q := x_isiR (.base (.dK h)) (by decide +kernel) q
theorem x_isiDk_bool {kvs : List (Key × V)} (h : H p = some (.dK kvs)) (q : Q (.bl false) H) : uIsi K [.ref p, .ty "bool"] H Q := x_isiR (.base (.dK h)) (by decide +kernel) q
theorem x_isiDk_str {kvs : List (Key × V)} (h : H p = some (.dK kvs)) (q : Q (.bl false) H) : uIsi K [.ref p, .ty "str"] H Q := x_isiR (.base (.dK h)) (by decide +kernel) q
theorem x_isiDk_list {kvs : List (Key × V)} (h : H p = some (.dK kvs)) (q : Q (.bl false) H) : uIsi K [.ref p, .ty "list"] H Q := x_isiR (.base (.dK h)) (by decide +kernel) q
theorem x_isiDk_tuple {kvs : List (Key × V)} (h : H p = some (.dK kvs)) (q : Q (.bl false) H) : uIsi K [.ref p, .ty "tuple"] H Q := x_isiR (.base (.dK h)) (by decide +kernel) q
theorem x_isiDk_dict {kvs : List (Key × V)} (h : H p = some (.dK kvs)) (q : Q (.bl true) H) : uIsi K [.ref p, .ty "dict"] H Q := x_isiR (.base (.dK h)) (by decide +kernel) q
theorem x_max2 {m n : Int} (q : Q (.int (if n > m then n else m)) H) : uMax K [.int m, .int n] H Q := .inl ⟨m, n, rfl, q⟩
theorem x_min2 {m n : Int} (q : Q (.int (if n < m then n else m)) H) : uMin K [.int m, .int n] H Q := .inl ⟨m, n, rfl, q⟩
theorem x_list (h : SqL K H p xs) (q : New H Q (.lst xs)) : uList K [.ref p] H Q := ⟨p, xs, rfl, .inl h, q.mk⟩
theorem x_str (q : Q (.str (toString n)) H) (h : n.natAbs.log2 < 1920) : uStr [.int n] H Q := ⟨n, rfl, h, q⟩
end
end Kit

namespace My
open PySem L2 Kit

def top (i : Nat) : Stmt := PySem.Challenge.pw_wornpages_k11_marks.main.body.getD i (.Pass ⟨0, 0, 0, 0⟩)
abbrev s_mark_of : Stmt := top 2
abbrev N_mark_of : List Str := ["stamp", "name"]
theorem sc_mark_of : FnScope N_mark_of ["stamp", "name"] (defScope s_mark_of) := ⟨rfl, rfl, rfl, by decide +kernel, rfl, by decide +kernel, by decide +kernel⟩
abbrev s_stamp_of : Stmt := top 3
abbrev N_stamp_of : List Str := ["mark"]
theorem sc_stamp_of : FnScope N_stamp_of ["mark"] (defScope s_stamp_of) := ⟨rfl, rfl, rfl, by decide +kernel, rfl, by decide +kernel, by decide +kernel⟩
abbrev s_name_of : Stmt := top 4
abbrev N_name_of : List Str := ["mark"]
theorem sc_name_of : FnScope N_name_of ["mark"] (defScope s_name_of) := ⟨rfl, rfl, rfl, by decide +kernel, rfl, by decide +kernel, by decide +kernel⟩
abbrev s__law_cell_at : Stmt := top 6
abbrev N__law_cell_at : List Str := ["_law_script", "_law_k"]
theorem sc__law_cell_at : FnScope N__law_cell_at ["_law_script", "_law_k"] (defScope s__law_cell_at) := ⟨rfl, rfl, rfl, by decide +kernel, rfl, by decide +kernel, by decide +kernel⟩
abbrev s__law_whole : Stmt := top 7
abbrev N__law_whole : List Str := ["_law_found"]
theorem sc__law_whole : FnScope N__law_whole ["_law_found"] (defScope s__law_whole) := ⟨rfl, rfl, rfl, by decide +kernel, rfl, by decide +kernel, by decide +kernel⟩
abbrev s__law_stamp : Stmt := top 8
abbrev N__law_stamp : List Str := ["_law_cell"]
theorem sc__law_stamp : FnScope N__law_stamp ["_law_cell"] (defScope s__law_stamp) := ⟨rfl, rfl, rfl, by decide +kernel, rfl, by decide +kernel, by decide +kernel⟩
abbrev s__law_good : Stmt := top 9
abbrev N__law_good : List Str := ["_law_found", "_law_stamp_here", "_law_name"]
theorem sc__law_good : FnScope N__law_good ["_law_found", "_law_stamp_here", "_law_name"] (defScope s__law_good) := ⟨rfl, rfl, rfl, by decide +kernel, rfl, by decide +kernel, by decide +kernel⟩
abbrev s_law : Stmt := top 10
abbrev N_law : List Str := ["_law_script", "_law_one", "_law_other", "_law_way", "_law_first", "_law_second", "_law_found"]
theorem sc_law : FnScope N_law ["_law_script"] (defScope s_law) := ⟨rfl, rfl, rfl, by decide +kernel, rfl, by decide +kernel, by decide +kernel⟩
/-! steps of a reading: "s" one step, "go" as far as it goes -/
local macro_rules | `(tactic| walk_at "sq") => `(tactic| first | assumption | exact SqL.of (by assumption) | exact SqT.of (by assumption) | (refine Same.seq (by assumption) ?_; walk_at "sq") | (refine SqT.of ?_; walk_at "hp"))
local macro_rules | `(tactic| walk_at "hp") => `(tactic| first | assumption | (refine (show Same _ _ by assumption) _ _ ?_; walk_at "hp"))
local macro_rules | `(tactic| walk_at "side") => `(tactic| first | assumption | decide | omega | exact ⟨by decide, by decide, by decide⟩ | exact ⟨by decide, by decide +kernel⟩ | exact Or.inr ⟨by decide, by decide⟩ | exact Or.inl ⟨by omega, by omega⟩ | exact cdivW (by omega) (by omega) | (simp only [List.length_cons, List.length_nil, List.length_append, Nat.zero_add, Nat.reduceAdd, Nat.reduceMul]; decide) | (simp only [List.length_append, List.length_cons, List.length_nil, List.length_map]; omega) | (simp; done))
local macro_rules | `(tactic| walk_at "isi") => `(tactic| first
  | with_reducible refine x_isiNon_int ?_
  | with_reducible refine x_isiNon_bool ?_
  | with_reducible refine x_isiNon_str ?_
  | with_reducible refine x_isiNon_list ?_
  | with_reducible refine x_isiNon_tuple ?_
  | with_reducible refine x_isiNon_dict ?_
  | with_reducible refine x_isiBl_int ?_
  | with_reducible refine x_isiBl_bool ?_
  | with_reducible refine x_isiBl_str ?_
  | with_reducible refine x_isiBl_list ?_
  | with_reducible refine x_isiBl_tuple ?_
  | with_reducible refine x_isiBl_dict ?_
  | with_reducible refine x_isiInt_int ?_
  | with_reducible refine x_isiInt_bool ?_
  | with_reducible refine x_isiInt_str ?_
  | with_reducible refine x_isiInt_list ?_
  | with_reducible refine x_isiInt_tuple ?_
  | with_reducible refine x_isiInt_dict ?_
  | with_reducible refine x_isiStr_int ?_
  | with_reducible refine x_isiStr_bool ?_
  | with_reducible refine x_isiStr_str ?_
  | with_reducible refine x_isiStr_list ?_
  | with_reducible refine x_isiStr_tuple ?_
  | with_reducible refine x_isiStr_dict ?_
  | with_reducible refine x_isiLst_int (by assumption) ?_
  | with_reducible refine x_isiLst_bool (by assumption) ?_
  | with_reducible refine x_isiLst_str (by assumption) ?_
  | with_reducible refine x_isiLst_list (by assumption) ?_
  | with_reducible refine x_isiLst_tuple (by assumption) ?_
  | with_reducible refine x_isiLst_dict (by assumption) ?_
  | with_reducible refine x_isiTup_int (by assumption) ?_
  | with_reducible refine x_isiTup_bool (by assumption) ?_
  | with_reducible refine x_isiTup_str (by assumption) ?_
  | with_reducible refine x_isiTup_list (by assumption) ?_
  | with_reducible refine x_isiTup_tuple (by assumption) ?_
  | with_reducible refine x_isiTup_dict (by assumption) ?_
  | with_reducible refine x_isiDk_int (by assumption) ?_
  | with_reducible refine x_isiDk_bool (by assumption) ?_
  | with_reducible refine x_isiDk_str (by assumption) ?_
  | with_reducible refine x_isiDk_list (by assumption) ?_
  | with_reducible refine x_isiDk_tuple (by assumption) ?_
  | with_reducible refine x_isiDk_dict (by assumption) ?_)
local macro_rules | `(tactic| walk_at "s") => `(tactic| first
  | walk_at "u"
  | with_reducible refine x_seqA ?_
  | with_reducible refine x_seqD ?_
  | with_reducible refine x_seqF ?_
  | with_reducible refine x_seqFA ?_
  | with_reducible refine x_seqAug ?_
  | with_reducible refine x_asg ?_
  | ((with_reducible refine' x_var ?hv ?_); case hv => exact rfl)
  | with_reducible refine x_c ?_
  | with_reducible refine x_op ?_
  | with_reducible refine x_cb ?_
  | with_reducible refine x_cons ?_
  | with_reducible refine x_nil ?_
  | ((with_reducible refine x_gname ?_); try dsimp only [List.set])
  | with_reducible refine x_if ?_
  | with_reducible refine x_ret ?_
  | with_reducible refine x_test ?_
  | ((with_reducible refine x_isbl ?_); try dsimp only)
  | ((with_reducible refine x_truBl ?_); try dsimp only)
  | with_reducible refine x_callS ?_
  | with_reducible refine x_iteT ?_
  | with_reducible refine x_iteF ?_
  | with_reducible refine x_iteN ?_
  | with_reducible refine x_I0 ?_
  | with_reducible refine x_addI ?_
  | with_reducible refine x_lt ?_
  | ((with_reducible refine x_I ?_ ?hs); (try (case hs => walk_at "side")))
  | ((with_reducible refine x_mulI ?_ ?hs); (try (case hs => walk_at "side")))
  | with_reducible refine x_eqI ?_
  | with_reducible refine x_neI ?_
  | with_reducible refine x_eqB ?_
  | with_reducible refine x_neB ?_
  | with_reducible refine x_eqS ?_
  | with_reducible refine x_andT ?_
  | with_reducible refine x_orT ?_
  | with_reducible refine x_notT ?_
  | with_reducible refine x_and ?_
  | with_reducible refine x_or ?_
  | with_reducible refine x_not ?_
  | with_reducible refine x_chain ?_
  | with_reducible refine x_tB ?_
  | with_reducible refine x_tup ?_
  | with_reducible refine x_lst ?_
  | with_reducible refine x_un ?_
  | ((with_reducible refine x_nwL ?_ ?hs); (try (case hs => walk_at "side")); intro p H1 hp hs hn)
  | ((with_reducible refine x_nwT ?_ ?hs); (try (case hs => walk_at "side")); intro p H1 hp hs hn)
  | ((with_reducible refine' x_addL ?h1 ?h2 ?_ ?hs); (case h1 => walk_at "hp"); (case h2 => walk_at "hp"); (try (case hs => walk_at "side")); intro p H1 hp hs hn)
  | ((with_reducible refine' x_rep ?h1 ?_ ?h2 ?h0 ?hs); (case h1 => walk_at "hp"); (try (case h2 => walk_at "side")); (try (case h0 => walk_at "side")); (try (case hs => walk_at "side")); intro p H1 hp hs hn)
  | ((with_reducible refine' x_addS ?_ ?hs); (try (case hs => walk_at "side")))
  | with_reducible refine x_U ?_
  | with_reducible refine x_drop ?_
  | with_reducible refine x_retN ?_
  | with_reducible refine x_next ?_
  | with_reducible refine x_ifExp ?_
  | ((with_reducible refine' x_lenM ?hq ?_); case hq => walk_at "sq")
  | ((with_reducible refine' x_lenL ?hq ?_); case hq => walk_at "sq")
  | ((with_reducible refine' x_lenT ?hq ?_); case hq => walk_at "sq")
  | ((with_reducible refine' x_ixI ?hq ?_ ?h0 ?h1); (case hq => walk_at "sq"); (try (case h0 => walk_at "side")); (try (case h1 => walk_at "side")))
  | ((with_reducible refine' x_ixL ?hq ?_ ?h0 ?h1); (case hq => walk_at "sq"); (try (case h0 => walk_at "side")); (try (case h1 => walk_at "side")))
  | ((with_reducible refine' x_ixT ?hq ?ha ?_); (case hq => walk_at "sq"); case ha => exact rfl)
  | walk_at "isi"
  | with_reducible refine x_max2 ?_
  | with_reducible refine x_min2 ?_
  | ((with_reducible refine' x_list ?hq ?_); (case hq => walk_at "sq"); intro p H1 hp hs hn)
  | ((with_reducible refine x_shl ?_ ?hs); (try (case hs => walk_at "side")))
  | ((with_reducible refine x_str ?_ ?hs); (try (case hs => walk_at "side"))))
local macro_rules | `(tactic| walk_at "go") => `(tactic| repeat walk_at "s")
local macro_rules | `(tactic| walk_at "begin") => `(tactic| simp only [cxOf, L2.start, List.map, List.length_cons, List.length_nil, List.replicate, Nat.reduceAdd, Nat.reduceSub, List.cons_append, List.nil_append])
local macro_rules | `(tactic| walk_at "if") => `(tactic| ((with_reducible refine x_seq ?_); repeat walk_at "s"))

--#LAWSPEC 4

structure Txt (K : PySem.W.Frag) (mg : Str → Option Value) where
  a_mark_of : Addr
  fd_mark_of : FuncData
  F_mark_of : Fun K "mark_of" "mark_of" s_mark_of a_mark_of fd_mark_of
  bd_mark_of : Binds K fd_mark_of ["stamp", "name"] []
  k_mark_of : PySem.W.keepIn K (.ref a_mark_of) = true
  g_mark_of : mg "mark_of" = some (.ref a_mark_of)
  a_stamp_of : Addr
  fd_stamp_of : FuncData
  F_stamp_of : Fun K "stamp_of" "stamp_of" s_stamp_of a_stamp_of fd_stamp_of
  bd_stamp_of : Binds K fd_stamp_of ["mark"] []
  k_stamp_of : PySem.W.keepIn K (.ref a_stamp_of) = true
  g_stamp_of : mg "stamp_of" = some (.ref a_stamp_of)
  a_name_of : Addr
  fd_name_of : FuncData
  F_name_of : Fun K "name_of" "name_of" s_name_of a_name_of fd_name_of
  bd_name_of : Binds K fd_name_of ["mark"] []
  k_name_of : PySem.W.keepIn K (.ref a_name_of) = true
  g_name_of : mg "name_of" = some (.ref a_name_of)
  a__law_cell_at : Addr
  fd__law_cell_at : FuncData
  F__law_cell_at : Fun K "_law_cell_at" "_law_cell_at" s__law_cell_at a__law_cell_at fd__law_cell_at
  bd__law_cell_at : Binds K fd__law_cell_at ["_law_script", "_law_k"] []
  k__law_cell_at : PySem.W.keepIn K (.ref a__law_cell_at) = true
  g__law_cell_at : mg "_law_cell_at" = some (.ref a__law_cell_at)
  a__law_whole : Addr
  fd__law_whole : FuncData
  F__law_whole : Fun K "_law_whole" "_law_whole" s__law_whole a__law_whole fd__law_whole
  bd__law_whole : Binds K fd__law_whole ["_law_found"] []
  k__law_whole : PySem.W.keepIn K (.ref a__law_whole) = true
  g__law_whole : mg "_law_whole" = some (.ref a__law_whole)
  a__law_stamp : Addr
  fd__law_stamp : FuncData
  F__law_stamp : Fun K "_law_stamp" "_law_stamp" s__law_stamp a__law_stamp fd__law_stamp
  bd__law_stamp : Binds K fd__law_stamp ["_law_cell"] []
  k__law_stamp : PySem.W.keepIn K (.ref a__law_stamp) = true
  g__law_stamp : mg "_law_stamp" = some (.ref a__law_stamp)
  a__law_good : Addr
  fd__law_good : FuncData
  F__law_good : Fun K "_law_good" "_law_good" s__law_good a__law_good fd__law_good
  bd__law_good : Binds K fd__law_good ["_law_found", "_law_stamp_here", "_law_name"] []
  k__law_good : PySem.W.keepIn K (.ref a__law_good) = true
  g__law_good : mg "_law_good" = some (.ref a__law_good)
  a_law : Addr
  fd_law : FuncData
  F_law : Fun K "law" "law" s_law a_law fd_law
  bd_law : Binds K fd_law ["_law_script"] []
  k_law : PySem.W.keepIn K (.ref a_law) = true
  b_len : mg "len" = none
  b_isinstance : mg "isinstance" = none
  b_max : mg "max" = none
  b_int : mg "int" = none
  b_bool : mg "bool" = none
  u_ROLL : Value
  g_ROLL : mg "ROLL" = some u_ROLL
  r_ROLL : RelV (V.int (64)) u_ROLL

section
variable {P : Program} {w : World} {K : PySem.W.Frag} {mg : Str → Option Value} {base : Heap}
abbrev FO (P : Program) (w : World) (K : PySem.W.Frag) (mg : Str → Option Value) (base : Heap) := FnOk P w K mg base (L2.CX P w)
/-! ### the law's reader -/
def cl (ns : List Int) (k : Int) : Int := ns.getD k.toNat 0
def spCell (K : PySem.W.Frag) : Sp := fun vs H Q _ => ∃ (a : Addr) (ns : List Int) (k : Int), vs = [.ref a, .int k] ∧ SqL K H a (ns.map V.int) ∧ 0 ≤ k ∧ Q (.int (cl ns k)) H
theorem ok_cell_at (T : Txt K mg) : FO P w K mg base 1 T.a__law_cell_at T.fd__law_cell_at ["_law_script", "_law_k"] (spCell K) := by
  have sc := sc__law_cell_at
  refine T.F__law_cell_at.okX sc (fun vs H Q E h => ?_) (fun cdv A outer s H vs Q E hr h => ?_)
  · obtain ⟨a, ns, k, rfl, _⟩ := h
    rfl
  · obtain ⟨a, ns, k, rfl, hS, h0, q⟩ := h
    refine ⟨_, (pss_cons (ps_if (pt_cmpR op_uLt (pv 1) (pe_callB (cr_ulen) (by rfl) T.b_len bt_len (pa_cons (pv 0) pa_nil)) (nomark _)) (pss_one (ps_ret (pe_ix ix_seq (pv 0) (pv 1) (fun _ _ => rfl)))) pss_nil)
      (pss_one (ps_ret pe_int))), ?_⟩
    walk_at "begin"
    walk_at "if"
    refine x_iteD (fun h => ?_) (fun h => ?_)
    · walk_at "go"
      exact q
    · walk_at "go"
      have e : cl ns k = 0 := by
        unfold cl
        rw [List.getD_eq_getElem?_getD, List.getElem?_eq_none (by omega)]
        rfl
      rw [e] at q
      exact q

theorem x_cell {H : Hp} {Q : VK} {E : XK} {a : Addr} {ns : List Int} {k : Int} (h : SqL K H a (ns.map V.int)) (q : Q (.int (cl ns k)) H) (h0 : 0 ≤ k) : spCell K [.ref a, .int k] H Q E := ⟨a, ns, k, rfl, h, h0, q⟩
local macro_rules | `(tactic| walk_at "u") => `(tactic| ((with_reducible refine' x_cell ?hq ?_ ?h0); (case hq => walk_at "sq"); (try (case h0 => walk_at "side"))))

/-- a value that is no whole number, of a kind that is met here -/
def NotI (K : PySem.W.Frag) (H : Hp) (v : V) : Prop := v = .non ∨ (∃ b, v = .bl b) ∨ (∃ s, v = .str s) ∨ ∃ p, v = .ref p ∧ (TyX K H v (.type "list") ∨ TyX K H v (.type "tuple"))

def spLWhole (K : PySem.W.Frag) : Sp := fun vs H Q _ => ∃ v, vs = [v] ∧ ((∃ n, v = .int n ∧ Q (.bl true) H) ∨ (NotI K H v ∧ Q (.bl false) H))
theorem x_lwhole {H : Hp} {Q : VK} {E : XK} {n : Int} (q : Q (.bl true) H) : spLWhole K [.int n] H Q E := ⟨_, rfl, .inl ⟨n, rfl, q⟩⟩
theorem x_lwholeN {H : Hp} {Q : VK} {E : XK} {v : V} (h : NotI K H v) (q : Q (.bl false) H) : spLWhole K [v] H Q E := ⟨_, rfl, .inr ⟨h, q⟩⟩
local macro_rules | `(tactic| walk_at "u") => `(tactic| first | (with_reducible refine x_lwhole ?_) | (with_reducible refine x_lwholeN (by assumption) ?_))
theorem ok_whole (T : Txt K mg) : FO P w K mg base 1 T.a__law_whole T.fd__law_whole ["_law_found"] (spLWhole K) := by
  have sc := sc__law_whole
  refine T.F__law_whole.okX sc (fun vs H Q E h => ?_) (fun cdv A outer s H vs Q E hr h => ?_)
  · obtain ⟨v, rfl, _⟩ := h
    rfl
  · obtain ⟨v, rfl, h⟩ := h
    refine ⟨_, (pss_one (ps_ret (pe_andT (pe_callB (cr_uisinstance) (by rfl) T.b_isinstance bt_isinstance (pa_cons (pv 0) (pa_cons (pe_bltn (v := .ty "int") (by rfl) T.b_int bt_int rfl) pa_nil))) (pe_one (pe_notT (pe_callB (cr_uisinstance) (by rfl) T.b_isinstance bt_isinstance (pa_cons (pv 0) (pa_cons (pe_bltn (v := .ty "bool") (by rfl) T.b_bool bt_bool rfl) pa_nil)))))))), ?_⟩
    walk_at "begin"
    walk_at "go"
    rcases h with ⟨n, rfl, q⟩ | ⟨h, q⟩
    · walk_at "go"
      exact q
    · rcases h with rfl | ⟨b, rfl⟩ | ⟨z, rfl⟩ | ⟨p, rfl, h⟩
      · walk_at "go"
        exact q
      · walk_at "go"
        exact q
      · walk_at "go"
        exact q
      · rcases h with h | h
        · refine x_isiR h (b := false) (by decide +kernel) ?_
          walk_at "go"
          exact q
        · refine x_isiR h (b := false) (by decide +kernel) ?_
          walk_at "go"
          exact q

/-! ### marks -/
def mk (st nm : Int) : Int := st * 128 + nm
theorem mk_or {st nm : Int} (h : 0 ≤ st) (h0 : 0 ≤ nm) (h1 : nm < 128) : Builtin.bitOr (st * 2 ^ (7 : Int).toNat) nm = mk st nm := by
  have e := Bits.bitOr_join' (a := nm) (b := st) (k := 7) h0 (by omega) h
  rw [show (7 : Int).toNat = 7 from rfl, e]
  unfold mk
  omega
theorem mk_and {x : Int} (h : 0 ≤ x) : Builtin.bitAnd x 127 = x % 128 := Bits.bitAnd_mask 7 h
def spMark : Sp := fun vs H Q _ => ∃ st nm : Int, vs = [.int st, .int nm] ∧ (0 ≤ st ∧ st < 10 ^ 45 ∧ 0 ≤ nm ∧ nm < 128) ∧ Q (.int (mk st nm)) H
theorem x_mark {H : Hp} {Q : VK} {E : XK} {st nm : Int} (q : Q (.int (mk st nm)) H) (h : 0 ≤ st ∧ st < 10 ^ 45 ∧ 0 ≤ nm ∧ nm < 128) : spMark [.int st, .int nm] H Q E := ⟨st, nm, rfl, h, q⟩
local macro_rules | `(tactic| walk_at "u") => `(tactic| ((with_reducible refine x_mark ?_ ?hs); (try (case hs => walk_at "side"))))
theorem ok_mark_of (T : Txt K mg) : FO P w K mg base 1 T.a_mark_of T.fd_mark_of ["stamp", "name"] spMark := by
  have sc := sc_mark_of
  refine T.F_mark_of.okX sc (fun vs H Q E h => ?_) (fun cdv A outer s H vs Q E hr h => ?_)
  · obtain ⟨_, _, rfl, _⟩ := h
    rfl
  · obtain ⟨st, nm, rfl, ⟨h1, h2, h3, h4⟩, q⟩ := h
    have hc : CShl st 7 := shl_ok (n := 200) (by
      have : (2:Nat) ^ 200 = 1606938044258990275541962092341162602522202993782792835301376 := by decide
      omega) (by decide)
    refine ⟨_, (pss_one (ps_ret (pe_op op_or (pe_op op_uShl (pv 0) pe_int) (pv 1)))), ?_⟩
    walk_at "begin"
    walk_at "go"
    rw [mk_or h1 h3 h4]
    exact q
def spStampOf : Sp := fun vs H Q _ => ∃ m : Int, vs = [.int m] ∧ Q (.int (m / 128)) H
theorem x_stampOf {H : Hp} {Q : VK} {E : XK} {m : Int} (q : Q (.int (m / 128)) H) : spStampOf [.int m] H Q E := ⟨m, rfl, q⟩
local macro_rules | `(tactic| walk_at "u") => `(tactic| (with_reducible refine x_stampOf ?_))
theorem ok_stamp_of (T : Txt K mg) : FO P w K mg base 1 T.a_stamp_of T.fd_stamp_of ["mark"] spStampOf := by
  have sc := sc_stamp_of
  refine T.F_stamp_of.okX sc (fun vs H Q E h => ?_) (fun cdv A outer s H vs Q E hr h => ?_)
  · obtain ⟨_, rfl, _⟩ := h
    rfl
  · obtain ⟨m, rfl, q⟩ := h
    refine ⟨_, (pss_one (ps_ret (pe_op op_shr (pv 0) pe_int))), ?_⟩
    walk_at "begin"
    walk_at "go"
    exact q
def spNameOf : Sp := fun vs H Q _ => ∃ m : Int, vs = [.int m] ∧ 0 ≤ m ∧ Q (.int (m % 128)) H
theorem x_nameOf {H : Hp} {Q : VK} {E : XK} {m : Int} (q : Q (.int (m % 128)) H) (h : 0 ≤ m) : spNameOf [.int m] H Q E := ⟨m, rfl, h, q⟩
local macro_rules | `(tactic| walk_at "u") => `(tactic| ((with_reducible refine x_nameOf ?_ ?hs); (try (case hs => walk_at "side"))))
theorem ok_name_of (T : Txt K mg) : FO P w K mg base 1 T.a_name_of T.fd_name_of ["mark"] spNameOf := by
  have sc := sc_name_of
  refine T.F_name_of.okX sc (fun vs H Q E h => ?_) (fun cdv A outer s H vs Q E hr h => ?_)
  · obtain ⟨_, rfl, _⟩ := h
    rfl
  · obtain ⟨m, rfl, h, q⟩ := h
    refine ⟨_, (pss_one (ps_ret (pe_op op_and (pv 0) pe_int))), ?_⟩
    walk_at "begin"
    walk_at "go"
    rw [mk_and h]
    exact q
/-! ### the law's own -/
def stp (c : Int) : Int := if c % 2 = 0 then 1 + c / 2 % 130 else 1 + c / 2 * 982451653 % (10 ^ 40 - 1)
theorem stp_bd (c : Int) : 1 ≤ stp c ∧ stp c < 10 ^ 40 := by
  unfold stp
  split <;> omega
def spStp : Sp := fun vs H Q _ => ∃ c : Int, vs = [.int c] ∧ Q (.int (stp c)) H
theorem x_stp {H : Hp} {Q : VK} {E : XK} {c : Int} (q : Q (.int (stp c)) H) : spStp [.int c] H Q E := ⟨c, rfl, q⟩
local macro_rules | `(tactic| walk_at "u") => `(tactic| (with_reducible refine x_stp ?_))
theorem ok_stamp (T : Txt K mg) : FO P w K mg base 1 T.a__law_stamp T.fd__law_stamp ["_law_cell"] spStp := by
  have sc := sc__law_stamp
  refine T.F__law_stamp.okX sc (fun vs H Q E h => ?_) (fun cdv A outer s H vs Q E hr h => ?_)
  · obtain ⟨_, rfl, _⟩ := h
    rfl
  · obtain ⟨c, rfl, q⟩ := h
    refine ⟨_, (pss_cons (ps_if (pt_cmpR (op_uEq hr.units) (pe_op op_mod (pv 0) pe_int) pe_int (nomark _)) (pss_one (ps_ret (pe_op op_uAdd pe_int (pe_op op_mod (pe_op op_fdivW (pv 0) pe_int) pe_int)))) pss_nil)
      (pss_one (ps_ret (pe_op op_uAdd pe_int (pe_op op_mod (pe_op op_uMul (pe_op op_fdivW (pv 0) pe_int) pe_int) (pe_op op_sub (pe_op op_pow pe_int pe_int) pe_int)))))), ?_⟩
    walk_at "begin"
    walk_at "if"
    refine x_iteD (fun h => ?_) (fun h => ?_)
    · walk_at "go"
      unfold stp at q
      rw [if_pos h] at q
      exact q
    · walk_at "go"
      unfold stp at q
      rw [if_neg h] at q
      exact q
def spGood : Sp := fun vs H Q _ => ∃ st nm : Int, vs = [.int (mk st nm), .int st, .int nm] ∧ (0 ≤ st ∧ st < 10 ^ 45 ∧ 0 ≤ nm ∧ nm < 128) ∧ Q (.bl true) H
theorem ok_good (T : Txt K mg) : FO P w K mg base 3 T.a__law_good T.fd__law_good ["_law_found", "_law_stamp_here", "_law_name"] spGood := by
  have sc := sc__law_good
  refine T.F__law_good.okX sc (fun vs H Q E h => ?_) (fun cdv A outer s H vs Q E hr h => ?_)
  · obtain ⟨_, _, rfl, _⟩ := h
    rfl
  · obtain ⟨st, nm, rfl, ⟨h1, h2, h3, h4⟩, q⟩ := h
    have hm : 0 ≤ mk st nm := by unfold mk; omega
    refine ⟨_, (pss_cons (ps_if (PW.pt (pw_or (pt_not (pt_truth (pe_callS (ok_whole T) (hr.mono (by decide)) (by rfl) T.g__law_whole T.k__law_whole T.bd__law_whole (passAt (takes_of rfl rfl rfl rfl)) (pa_cons (pv 0) pa_nil)) (by intro _; rfl))) (pw_or1 (pt_cmpR (op_uNe hr.units) (pv 0) (pe_op op_uAdd (pe_op op_uMul (pv 1) pe_int) (pv 2)) (nomark _))))) (pss_one (ps_ret pe_bl)) pss_nil)
      (pss_cons (ps_if (PW.pt (pw_or (pt_not (pt_truth (pe_callS (ok_whole T) (hr.mono (by decide)) (by rfl) T.g__law_whole T.k__law_whole T.bd__law_whole (passAt (takes_of rfl rfl rfl rfl)) (pa_cons (pe_callS (ok_stamp_of T) (hr.mono (by decide)) (by rfl) T.g_stamp_of T.k_stamp_of T.bd_stamp_of (passAt (takes_of rfl rfl rfl rfl)) (pa_cons (pv 0) pa_nil)) pa_nil)) (by intro _; rfl))) (pw_or1 (pt_not (pt_truth (pe_callS (ok_whole T) (hr.mono (by decide)) (by rfl) T.g__law_whole T.k__law_whole T.bd__law_whole (passAt (takes_of rfl rfl rfl rfl)) (pa_cons (pe_callS (ok_name_of T) (hr.mono (by decide)) (by rfl) T.g_name_of T.k_name_of T.bd_name_of (passAt (takes_of rfl rfl rfl rfl)) (pa_cons (pv 0) pa_nil)) pa_nil)) (by intro _; rfl)))))) (pss_one (ps_ret pe_bl)) pss_nil)
      (pss_one (ps_ret (pe_andT (pe_cmpR (op_uEq hr.units) (pe_callS (ok_stamp_of T) (hr.mono (by decide)) (by rfl) T.g_stamp_of T.k_stamp_of T.bd_stamp_of (passAt (takes_of rfl rfl rfl rfl)) (pa_cons (pv 0) pa_nil)) (pv 1) (nomark _)) (pe_one (pe_cmpR (op_uEq hr.units) (pe_callS (ok_name_of T) (hr.mono (by decide)) (by rfl) T.g_name_of T.k_name_of T.bd_name_of (passAt (takes_of rfl rfl rfl rfl)) (pa_cons (pv 0) pa_nil)) (pv 2) (nomark _)))))))), ?_⟩
    walk_at "begin"
    walk_at "if"
    refine x_iteD (fun h => ?_) (fun h => absurd rfl h)
    walk_at "go"
    walk_at "if"
    have e1 : mk st nm / 128 = st := by unfold mk; omega
    have e2 : mk st nm % 128 = nm := by unfold mk; omega
    rw [e1]
    refine x_iteD (fun h => ?_) (fun h => absurd rfl h)
    walk_at "go"
    rw [e2, decide_eq_true rfl]
    exact q
theorem x_good {H : Hp} {Q : VK} {E : XK} {st nm : Int} (q : Q (.bl true) H) (h : 0 ≤ st ∧ st < 10 ^ 45 ∧ 0 ≤ nm ∧ nm < 128) : spGood [.int (mk st nm), .int st, .int nm] H Q E := ⟨st, nm, rfl, h, q⟩
local macro_rules | `(tactic| walk_at "u") => `(tactic| ((with_reducible refine x_good ?_ ?hs); (try (case hs => walk_at "side"))))
/-! ### the law -/
def spLaw (K : PySem.W.Frag) : Sp := fun vs H Q _ => ∃ (a : Addr) (ns : List Int), vs = [.ref a] ∧ SqL K H a (ns.map V.int) ∧ ns.length ≤ 63 ∧ ∀ H', Q (.bl true) H'
theorem ok_law (T : Txt K mg) : FO P w K mg base 4 T.a_law T.fd_law ["_law_script"] (spLaw K) := by
  have sc := sc_law
  refine T.F_law.okX sc (fun vs H Q E h => ?_) (fun cdv A outer s H vs Q E hr h => ?_)
  · obtain ⟨a, ns, rfl, _⟩ := h
    rfl
  · obtain ⟨a, ns, rfl, hS, hl, q⟩ := h
    refine ⟨_, (pss_cons (ps_set (i := 1) sc.nd rfl (Or.inl rfl) (pe_callS (ok_stamp T) (hr.mono (by decide)) (by rfl) T.g__law_stamp T.k__law_stamp T.bd__law_stamp (passAt (takes_of rfl rfl rfl rfl)) (pa_cons (pe_callS (ok_cell_at T) (hr.mono (by decide)) (by rfl) T.g__law_cell_at T.k__law_cell_at T.bd__law_cell_at (passAt (takes_of rfl rfl rfl rfl)) (pa_cons (pv 0) (pa_cons pe_int pa_nil))) pa_nil)))
      (pss_cons (ps_set (i := 2) sc.nd rfl (Or.inl rfl) (pe_callS (ok_stamp T) (hr.mono (by decide)) (by rfl) T.g__law_stamp T.k__law_stamp T.bd__law_stamp (passAt (takes_of rfl rfl rfl rfl)) (pa_cons (pe_callS (ok_cell_at T) (hr.mono (by decide)) (by rfl) T.g__law_cell_at T.k__law_cell_at T.bd__law_cell_at (passAt (takes_of rfl rfl rfl rfl)) (pa_cons (pv 0) (pa_cons pe_int pa_nil))) pa_nil)))
      (pss_cons (ps_set (i := 3) sc.nd rfl (Or.inl rfl) (pe_op op_mod (pe_callS (ok_cell_at T) (hr.mono (by decide)) (by rfl) T.g__law_cell_at T.k__law_cell_at T.bd__law_cell_at (passAt (takes_of rfl rfl rfl rfl)) (pa_cons (pv 0) (pa_cons pe_int pa_nil))) pe_int))
      (pss_cons (ps_if (pt_cmpR (op_uEq hr.units) (pv 3) pe_int (nomark _)) (pss_one (ps_set (i := 2) sc.nd rfl (Or.inl rfl) (pv 1))) pss_nil)
      (pss_cons (ps_if (pt_cmpR (op_uEq hr.units) (pv 3) pe_int (nomark _)) (pss_one (ps_set (i := 2) sc.nd rfl (Or.inl rfl) (pe_callB (cr_umax) (by rfl) T.b_max bt_max (pa_cons pe_int (pa_cons (pe_op op_sub (pv 1) pe_int) pa_nil))))) pss_nil)
      (pss_cons (ps_set (i := 4) sc.nd rfl (Or.inl rfl) (pe_op op_mod (pe_callS (ok_cell_at T) (hr.mono (by decide)) (by rfl) T.g__law_cell_at T.k__law_cell_at T.bd__law_cell_at (passAt (takes_of rfl rfl rfl rfl)) (pa_cons (pv 0) (pa_cons pe_int pa_nil))) pe_int))
      (pss_cons (ps_set (i := 5) sc.nd rfl (Or.inl rfl) (pe_op op_mod (pe_callS (ok_cell_at T) (hr.mono (by decide)) (by rfl) T.g__law_cell_at T.k__law_cell_at T.bd__law_cell_at (passAt (takes_of rfl rfl rfl rfl)) (pa_cons (pv 0) (pa_cons pe_int pa_nil))) pe_int))
      (pss_cons (ps_if (PW.pt (pw_or (pt_not (pt_truth (pe_callS (ok_whole T) (hr.mono (by decide)) (by rfl) T.g__law_whole T.k__law_whole T.bd__law_whole (passAt (takes_of rfl rfl rfl rfl)) (pa_cons (pe_glob rfl T.g_ROLL T.r_ROLL) pa_nil)) (by intro _; rfl))) (pw_or1 (pt_cmpR (op_uNe hr.units) (pe_glob rfl T.g_ROLL T.r_ROLL) pe_int (nomark _))))) (pss_one (ps_ret pe_bl)) pss_nil)
      (pss_cons (ps_set (i := 6) sc.nd rfl (Or.inl rfl) (pe_callS (ok_mark_of T) (hr.mono (by decide)) (by rfl) T.g_mark_of T.k_mark_of T.bd_mark_of (passAt (takes_of rfl rfl rfl rfl)) (pa_cons (pv 1) (pa_cons (pv 4) pa_nil))))
      (pss_cons (ps_if (PW.pt (pw_or (pt_not (pt_truth (pe_callS (ok_good T) (hr.mono (by decide)) (by rfl) T.g__law_good T.k__law_good T.bd__law_good (passAt (takes_of rfl rfl rfl rfl)) (pa_cons (pv 6) (pa_cons (pv 1) (pa_cons (pv 4) pa_nil)))) (by intro _; rfl))) (pw_or1 (pt_not (pt_truth (pe_callS (ok_good T) (hr.mono (by decide)) (by rfl) T.g__law_good T.k__law_good T.bd__law_good (passAt (takes_of rfl rfl rfl rfl)) (pa_cons (pe_callS (ok_mark_of T) (hr.mono (by decide)) (by rfl) T.g_mark_of T.k_mark_of T.bd_mark_of (passAt (takes_of rfl rfl rfl rfl)) (pa_cons (pv 2) (pa_cons (pv 5) pa_nil))) (pa_cons (pv 2) (pa_cons (pv 5) pa_nil)))) (by intro _; rfl)))))) (pss_one (ps_ret pe_bl)) pss_nil)
      (pss_cons (ps_if (pt_not (pt_truth (pe_callS (ok_good T) (hr.mono (by decide)) (by rfl) T.g__law_good T.k__law_good T.bd__law_good (passAt (takes_of rfl rfl rfl rfl)) (pa_cons (pe_callS (ok_mark_of T) (hr.mono (by decide)) (by rfl) T.g_mark_of T.k_mark_of T.bd_mark_of (passAt (takes_of rfl rfl rfl rfl)) (pa_cons (pv 2) (pa_cons (pe_glob rfl T.g_ROLL T.r_ROLL) pa_nil))) (pa_cons (pv 2) (pa_cons pe_int pa_nil)))) (by intro _; rfl))) (pss_one (ps_ret pe_bl)) pss_nil)
      (pss_one (ps_ret (pe_andT (pe_callS (ok_good T) (hr.mono (by decide)) (by rfl) T.g__law_good T.k__law_good T.bd__law_good (passAt (takes_of rfl rfl rfl rfl)) (pa_cons (pv 6) (pa_cons (pv 1) (pa_cons (pv 4) pa_nil)))) (pe_one (pe_cmpR (op_uEq hr.units) (pe_callS (ok_mark_of T) (hr.mono (by decide)) (by rfl) T.g_mark_of T.k_mark_of T.bd_mark_of (passAt (takes_of rfl rfl rfl rfl)) (pa_cons (pv 1) (pa_cons (pv 4) pa_nil))) (pv 6) (nomark _))))))))))))))))), ?_⟩
    walk_at "begin"
    walk_at "go"
    have b0 := stp_bd (cl ns 0)
    have b1 := stp_bd (cl ns 1)
    generalize stp (cl ns 0) = s0 at b0 ⊢
    generalize stp (cl ns 1) = s1 at b1 ⊢
    refine x_join (fun σ' H' => H' = H ∧ ∃ o, σ' = [some (.ref a), some (.int s0), some (.int o), some (.int (cl ns 2 % 3)), none, none, none] ∧ 1 ≤ o ∧ o < 10 ^ 40) (fun R hR => ?_) ?_
    · walk_at "go"
      refine x_iteD (fun h => ?_) (fun h => ?_)
      · walk_at "go"
        exact hR _ _ ⟨rfl, _, rfl, b0⟩
      · walk_at "go"
        exact hR _ _ ⟨rfl, _, rfl, b1⟩
    intro σ' H' ⟨hH, o, hσ, ho⟩
    rw [hσ, hH]
    refine x_join (fun σ' H' => H' = H ∧ ∃ o, σ' = [some (.ref a), some (.int s0), some (.int o), some (.int (cl ns 2 % 3)), none, none, none] ∧ 1 ≤ o ∧ o < 10 ^ 40) (fun R hR => ?_) ?_
    · walk_at "go"
      refine x_iteD (fun h => ?_) (fun h => ?_)
      · walk_at "go"
        exact hR _ _ ⟨rfl, _, rfl, by split <;> omega⟩
      · walk_at "go"
        exact hR _ _ ⟨rfl, _, rfl, ho⟩
    intro σ' H' ⟨hH, o, hσ, ho⟩
    rw [hσ, hH]
    walk_at "go"
    have n1 := Int.emod_nonneg (cl ns 3) (show (65 : Int) ≠ 0 by decide)
    have n2 := Int.emod_lt_of_pos (cl ns 3) (show (0 : Int) < 65 by decide)
    have m1 := Int.emod_nonneg (cl ns 4) (show (65 : Int) ≠ 0 by decide)
    have m2 := Int.emod_lt_of_pos (cl ns 4) (show (0 : Int) < 65 by decide)
    generalize cl ns 3 % 65 = n at n1 n2 ⊢
    generalize cl ns 4 % 65 = m at m1 m2 ⊢
    walk_at "if"
    refine x_iteD (fun h => ?_) (fun h => absurd rfl h)
    walk_at "go"
    walk_at "if"
    walk_at "if"
    rw [decide_eq_true rfl]
    exact q H
end

theorem all_mk {l : PySem.W.OpenLaw} {w : World} {K : PySem.W.Frag} {h : Heap} {mg : Str → Option Value} {fa : Addr} (X : K.In h) (G : h.Ns mainGlobals mg) (hfa : mg "law" = some (.ref fa))
    {f_mark_of : Addr} {od_mark_of an_mark_of : Option Addr} {sl_mark_of : Array (Option Value)} {oc_mark_of kV_mark_of dc_mark_of pm_mark_of cd_mark_of ct_mark_of : Value}
    {f_stamp_of : Addr} {od_stamp_of an_stamp_of : Option Addr} {sl_stamp_of : Array (Option Value)} {oc_stamp_of kV_stamp_of dc_stamp_of pm_stamp_of cd_stamp_of ct_stamp_of : Value}
    {f_name_of : Addr} {od_name_of an_name_of : Option Addr} {sl_name_of : Array (Option Value)} {oc_name_of kV_name_of dc_name_of pm_name_of cd_name_of ct_name_of : Value}
    {f__law_cell_at : Addr} {od__law_cell_at an__law_cell_at : Option Addr} {sl__law_cell_at : Array (Option Value)} {oc__law_cell_at kV__law_cell_at dc__law_cell_at pm__law_cell_at cd__law_cell_at ct__law_cell_at : Value}
    {f__law_whole : Addr} {od__law_whole an__law_whole : Option Addr} {sl__law_whole : Array (Option Value)} {oc__law_whole kV__law_whole dc__law_whole pm__law_whole cd__law_whole ct__law_whole : Value}
    {f__law_stamp : Addr} {od__law_stamp an__law_stamp : Option Addr} {sl__law_stamp : Array (Option Value)} {oc__law_stamp kV__law_stamp dc__law_stamp pm__law_stamp cd__law_stamp ct__law_stamp : Value}
    {f__law_good : Addr} {od__law_good an__law_good : Option Addr} {sl__law_good : Array (Option Value)} {oc__law_good kV__law_good dc__law_good pm__law_good cd__law_good ct__law_good : Value}
    {f_law : Addr} {od_law an_law : Option Addr} {sl_law : Array (Option Value)} {oc_law kV_law dc_law pm_law cd_law ct_law : Value}
    {t_ROLL : Tok}
    (a_mark_of : PySem.W.nsIn K mainGlobals "mark_of" = some (some (.ref f_mark_of)))
    (l_mark_of : K.lookup f_mark_of = some ⟨oc_mark_of, od_mark_of, .func (PySem.W.fnOf "mark_of" "mark_of" (defArgs s_mark_of) (defBody s_mark_of) (defScope s_mark_of) .none kV_mark_of dc_mark_of pm_mark_of an_mark_of cd_mark_of ct_mark_of), sl_mark_of⟩)
    (c_mark_of : PySem.W.codeIn K cd_mark_of "mark_of" = true)
    (k_mark_of : PySem.W.keepIn K (.ref f_mark_of) = true)
    (a_stamp_of : PySem.W.nsIn K mainGlobals "stamp_of" = some (some (.ref f_stamp_of)))
    (l_stamp_of : K.lookup f_stamp_of = some ⟨oc_stamp_of, od_stamp_of, .func (PySem.W.fnOf "stamp_of" "stamp_of" (defArgs s_stamp_of) (defBody s_stamp_of) (defScope s_stamp_of) .none kV_stamp_of dc_stamp_of pm_stamp_of an_stamp_of cd_stamp_of ct_stamp_of), sl_stamp_of⟩)
    (c_stamp_of : PySem.W.codeIn K cd_stamp_of "stamp_of" = true)
    (k_stamp_of : PySem.W.keepIn K (.ref f_stamp_of) = true)
    (a_name_of : PySem.W.nsIn K mainGlobals "name_of" = some (some (.ref f_name_of)))
    (l_name_of : K.lookup f_name_of = some ⟨oc_name_of, od_name_of, .func (PySem.W.fnOf "name_of" "name_of" (defArgs s_name_of) (defBody s_name_of) (defScope s_name_of) .none kV_name_of dc_name_of pm_name_of an_name_of cd_name_of ct_name_of), sl_name_of⟩)
    (c_name_of : PySem.W.codeIn K cd_name_of "name_of" = true)
    (k_name_of : PySem.W.keepIn K (.ref f_name_of) = true)
    (a__law_cell_at : PySem.W.nsIn K mainGlobals "_law_cell_at" = some (some (.ref f__law_cell_at)))
    (l__law_cell_at : K.lookup f__law_cell_at = some ⟨oc__law_cell_at, od__law_cell_at, .func (PySem.W.fnOf "_law_cell_at" "_law_cell_at" (defArgs s__law_cell_at) (defBody s__law_cell_at) (defScope s__law_cell_at) .none kV__law_cell_at dc__law_cell_at pm__law_cell_at an__law_cell_at cd__law_cell_at ct__law_cell_at), sl__law_cell_at⟩)
    (c__law_cell_at : PySem.W.codeIn K cd__law_cell_at "_law_cell_at" = true)
    (k__law_cell_at : PySem.W.keepIn K (.ref f__law_cell_at) = true)
    (a__law_whole : PySem.W.nsIn K mainGlobals "_law_whole" = some (some (.ref f__law_whole)))
    (l__law_whole : K.lookup f__law_whole = some ⟨oc__law_whole, od__law_whole, .func (PySem.W.fnOf "_law_whole" "_law_whole" (defArgs s__law_whole) (defBody s__law_whole) (defScope s__law_whole) .none kV__law_whole dc__law_whole pm__law_whole an__law_whole cd__law_whole ct__law_whole), sl__law_whole⟩)
    (c__law_whole : PySem.W.codeIn K cd__law_whole "_law_whole" = true)
    (k__law_whole : PySem.W.keepIn K (.ref f__law_whole) = true)
    (a__law_stamp : PySem.W.nsIn K mainGlobals "_law_stamp" = some (some (.ref f__law_stamp)))
    (l__law_stamp : K.lookup f__law_stamp = some ⟨oc__law_stamp, od__law_stamp, .func (PySem.W.fnOf "_law_stamp" "_law_stamp" (defArgs s__law_stamp) (defBody s__law_stamp) (defScope s__law_stamp) .none kV__law_stamp dc__law_stamp pm__law_stamp an__law_stamp cd__law_stamp ct__law_stamp), sl__law_stamp⟩)
    (c__law_stamp : PySem.W.codeIn K cd__law_stamp "_law_stamp" = true)
    (k__law_stamp : PySem.W.keepIn K (.ref f__law_stamp) = true)
    (a__law_good : PySem.W.nsIn K mainGlobals "_law_good" = some (some (.ref f__law_good)))
    (l__law_good : K.lookup f__law_good = some ⟨oc__law_good, od__law_good, .func (PySem.W.fnOf "_law_good" "_law_good" (defArgs s__law_good) (defBody s__law_good) (defScope s__law_good) .none kV__law_good dc__law_good pm__law_good an__law_good cd__law_good ct__law_good), sl__law_good⟩)
    (c__law_good : PySem.W.codeIn K cd__law_good "_law_good" = true)
    (k__law_good : PySem.W.keepIn K (.ref f__law_good) = true)
    (a_law : PySem.W.nsIn K mainGlobals "law" = some (some (.ref f_law)))
    (l_law : K.lookup f_law = some ⟨oc_law, od_law, .func (PySem.W.fnOf "law" "law" (defArgs s_law) (defBody s_law) (defScope s_law) .none kV_law dc_law pm_law an_law cd_law ct_law), sl_law⟩)
    (c_law : PySem.W.codeIn K cd_law "law" = true)
    (k_law : PySem.W.keepIn K (.ref f_law) = true)
    (z_len : PySem.W.nsIn K mainGlobals "len" = some none)
    (z_isinstance : PySem.W.nsIn K mainGlobals "isinstance" = some none)
    (z_max : PySem.W.nsIn K mainGlobals "max" = some none)
    (z_int : PySem.W.nsIn K mainGlobals "int" = some none)
    (z_bool : PySem.W.nsIn K mainGlobals "bool" = some none)
    (v_ROLL : PySem.W.nsIn K mainGlobals "ROLL" = some (some (Value.int (64) t_ROLL))) :
    ∃ fd : FuncData, (∀ (s : Shared) (v : Value), BindsTo s fd ⟨[v], []⟩ [("_law_script", v)]) ∧ ∀ base : Heap, K.In base → base.Ns mainGlobals mg → FnOk l.prog w K mg base (L2.CX l.prog w) 4 fa fd ["_law_script"] (spLaw K) := by
  have e := hfa.symm.trans (PySem.W.mg_of X G a_law)
  cases e
  have F_mark_of := fun_mk (st := s_mark_of) l_mark_of c_mark_of k_mark_of
  have b_mark_of := F_mark_of.binds (ps := ["stamp", "name"]) fun _ _ _ _ _ _ us hl => match us, hl with | [_, _], _ => rfl
  have F_stamp_of := fun_mk (st := s_stamp_of) l_stamp_of c_stamp_of k_stamp_of
  have b_stamp_of := F_stamp_of.binds (ps := ["mark"]) fun _ _ _ _ _ _ us hl => match us, hl with | [_], _ => rfl
  have F_name_of := fun_mk (st := s_name_of) l_name_of c_name_of k_name_of
  have b_name_of := F_name_of.binds (ps := ["mark"]) fun _ _ _ _ _ _ us hl => match us, hl with | [_], _ => rfl
  have F__law_cell_at := fun_mk (st := s__law_cell_at) l__law_cell_at c__law_cell_at k__law_cell_at
  have b__law_cell_at := F__law_cell_at.binds (ps := ["_law_script", "_law_k"]) fun _ _ _ _ _ _ us hl => match us, hl with | [_, _], _ => rfl
  have F__law_whole := fun_mk (st := s__law_whole) l__law_whole c__law_whole k__law_whole
  have b__law_whole := F__law_whole.binds (ps := ["_law_found"]) fun _ _ _ _ _ _ us hl => match us, hl with | [_], _ => rfl
  have F__law_stamp := fun_mk (st := s__law_stamp) l__law_stamp c__law_stamp k__law_stamp
  have b__law_stamp := F__law_stamp.binds (ps := ["_law_cell"]) fun _ _ _ _ _ _ us hl => match us, hl with | [_], _ => rfl
  have F__law_good := fun_mk (st := s__law_good) l__law_good c__law_good k__law_good
  have b__law_good := F__law_good.binds (ps := ["_law_found", "_law_stamp_here", "_law_name"]) fun _ _ _ _ _ _ us hl => match us, hl with | [_, _, _], _ => rfl
  have F_law := fun_mk (st := s_law) l_law c_law k_law
  have b_law := F_law.binds (ps := ["_law_script"]) fun _ _ _ _ _ _ us hl => match us, hl with | [_], _ => rfl
  let T : Txt K mg := {
    a_mark_of := f_mark_of
    fd_mark_of := _
    F_mark_of := F_mark_of
    bd_mark_of := b_mark_of
    k_mark_of := k_mark_of
    g_mark_of := PySem.W.mg_of X G a_mark_of
    a_stamp_of := f_stamp_of
    fd_stamp_of := _
    F_stamp_of := F_stamp_of
    bd_stamp_of := b_stamp_of
    k_stamp_of := k_stamp_of
    g_stamp_of := PySem.W.mg_of X G a_stamp_of
    a_name_of := f_name_of
    fd_name_of := _
    F_name_of := F_name_of
    bd_name_of := b_name_of
    k_name_of := k_name_of
    g_name_of := PySem.W.mg_of X G a_name_of
    a__law_cell_at := f__law_cell_at
    fd__law_cell_at := _
    F__law_cell_at := F__law_cell_at
    bd__law_cell_at := b__law_cell_at
    k__law_cell_at := k__law_cell_at
    g__law_cell_at := PySem.W.mg_of X G a__law_cell_at
    a__law_whole := f__law_whole
    fd__law_whole := _
    F__law_whole := F__law_whole
    bd__law_whole := b__law_whole
    k__law_whole := k__law_whole
    g__law_whole := PySem.W.mg_of X G a__law_whole
    a__law_stamp := f__law_stamp
    fd__law_stamp := _
    F__law_stamp := F__law_stamp
    bd__law_stamp := b__law_stamp
    k__law_stamp := k__law_stamp
    g__law_stamp := PySem.W.mg_of X G a__law_stamp
    a__law_good := f__law_good
    fd__law_good := _
    F__law_good := F__law_good
    bd__law_good := b__law_good
    k__law_good := k__law_good
    g__law_good := PySem.W.mg_of X G a__law_good
    a_law := fa
    fd_law := _
    F_law := F_law
    bd_law := b_law
    k_law := k_law
    b_len := PySem.W.mg_none_of X G z_len
    b_isinstance := PySem.W.mg_none_of X G z_isinstance
    b_max := PySem.W.mg_none_of X G z_max
    b_int := PySem.W.mg_none_of X G z_int
    b_bool := PySem.W.mg_none_of X G z_bool
    u_ROLL := _
    g_ROLL := PySem.W.mg_of X G v_ROLL
    r_ROLL := ⟨_, rfl⟩ }
  exact ⟨T.fd_law, fun s v => .of_eq rfl, fun base _ _ => ok_law T⟩
theorem walk {l : PySem.W.OpenLaw} {q : Program} {loose : List Str} {XP : (Str → Option Value) → Heap → Prop} {YP : World → Heap → Prop} {d : DefRec} {K : Params → PySem.W.Frag} (hn : l.most = some 63) (hdf : d.params.defaults = [])
    (hY : ∀ (w : World) (h : Heap), YP w h → (K w.params).In h)
    (F : ∀ (w : World) (mg : Str → Option Value) (fa : Addr) (h : Heap), (K w.params).In h → h.Ns mainGlobals mg → mg d.name = some (.ref fa) →
      ∃ fd : FuncData, (∀ (s : Shared) (u : Value), BindsTo s fd ⟨[u], []⟩ [("_law_script", u)]) ∧ ∀ base : Heap, (K w.params).In base → base.Ns mainGlobals mg → FnOk l.prog w (K w.params) mg base (L2.CX l.prog w) 4 fa fd ["_law_script"] (spLaw (K w.params))) :
    PySem.W.WalkO q loose XP YP l.row.toRowW d [] (fun f vs => PySem.call f vs) :=
  L2.walk_of (n := 63) (k := 4) (x := "_law_script") (CX := fun w => L2.CX l.prog w) (sp := fun w => spLaw (K w.params)) hn (by decide) hdf ⟨rfl, by decide, by decide⟩ hY F (fun _ _ a ns hl _ hS => ⟨a, ns, rfl, hS, hl, fun _ => rfl⟩) (fun _ _ _ _ _ z => by
    obtain ⟨_, _, _, _, _, _, _, _, _, _, _, _, z⟩ := z
    exact z.elim)
end My
open PySem PySem.W PyProof.Rows
set_option maxRecDepth 100000 in
set_option maxHeartbeats 0 in
theorem PySem.Challenge.cw_wornpages_k11_marks_holds : PySem.Challenge.rw_wornpages_k11_marks.Holds := by
  w_on; o_law; k_head; (case hw => w_witness2)
  k_fill
  refine My.walk (l := PySem.Challenge.rw_wornpages_k11_marks) rfl rfl (fun w h Y => PySem.W.kIn_of Y) ?F
  case F =>
    intro w mg fa h KX G hmg
    refine' My.all_mk KX G hmg ?a_mark_of ?l_mark_of ?c_mark_of ?k_mark_of ?a_stamp_of ?l_stamp_of ?c_stamp_of ?k_stamp_of ?a_name_of ?l_name_of ?c_name_of ?k_name_of ?a__law_cell_at ?l__law_cell_at ?c__law_cell_at ?k__law_cell_at ?a__law_whole ?l__law_whole ?c__law_whole ?k__law_whole ?a__law_stamp ?l__law_stamp ?c__law_stamp ?k__law_stamp ?a__law_good ?l__law_good ?c__law_good ?k__law_good ?a_law ?l_law ?c_law ?k_law ?z_len ?z_isinstance ?z_max ?z_int ?z_bool ?v_ROLL
    (case a_mark_of => k_is)
    (case l_mark_of => k_is)
    (case c_mark_of => k_is)
    (case k_mark_of => k_is)
    (case a_stamp_of => k_is)
    (case l_stamp_of => k_is)
    (case c_stamp_of => k_is)
    (case k_stamp_of => k_is)
    (case a_name_of => k_is)
    (case l_name_of => k_is)
    (case c_name_of => k_is)
    (case k_name_of => k_is)
    (case a__law_cell_at => k_is)
    (case l__law_cell_at => k_is)
    (case c__law_cell_at => k_is)
    (case k__law_cell_at => k_is)
    (case a__law_whole => k_is)
    (case l__law_whole => k_is)
    (case c__law_whole => k_is)
    (case k__law_whole => k_is)
    (case a__law_stamp => k_is)
    (case l__law_stamp => k_is)
    (case c__law_stamp => k_is)
    (case k__law_stamp => k_is)
    (case a__law_good => k_is)
    (case l__law_good => k_is)
    (case c__law_good => k_is)
    (case k__law_good => k_is)
    (case a_law => k_is)
    (case l_law => k_is)
    (case c_law => k_is)
    (case k_law => k_is)
    (case z_len => k_is)
    (case z_isinstance => k_is)
    (case z_max => k_is)
    (case z_int => k_is)
    (case z_bool => k_is)
    (case v_ROLL => k_is)
#print axioms PySem.Challenge.cw_wornpages_k11_marks_holds
