import PyProof.Rows.All
import Wide.All
import OpenK.AllK
import Wide.FinOn
import HandS.ForMost
import HandS.ForExc
import HandS.Flow
import HandS.Wide
import HandS.WideBits
import HandS.IsInst
import PySem.Challenge.RW_wornpages_k01_whole_numbers
set_option Elab.async false
set_option linter.all false
set_option maxRecDepth 100000
set_option maxHeartbeats 4000000
/-! Kit: unified operators, method calls by the receiver's class, and step lemmas for readings. -/
namespace Kit
open PySem PySem.Spec PyProof.Rows L2

section
variable {X : Cx}
/-! ### unified operators -/
abbrev rStrAdd : R2 := fun x y H Q => ∃ i j, x = .str i ∧ y = .str j ∧ i.length + j.length ≤ sizeLine ∧ Q (.str (i ++ j)) H
def uAdd (K : PySem.W.Frag) : R2 := fun x y H Q => rI0 (fun i j => .int (i + j)) x y H Q ∨ (rStrAdd x y H Q ∨ (rCat x y H Q ∨ rCatT K x y H Q))
theorem op_uAdd : OpR X (binaryOp .Add) (uAdd X.K) := op_add.or (op_add_str.or (op_cat.or op_catT))
def uMul : R2 := fun x y H Q => rI CMulW (fun i j => .int (i * j)) x y H Q ∨ rRep x y H Q
theorem op_uMul : OpR X (binaryOp .Mult) uMul := op_mulW.or op_rep
def uShl : R2 := rI CShl fun i j => .int (i * 2 ^ j.toNat)
theorem op_uShl : OpR X (binaryOp .LShift) uShl := op_shlW
def uEq (K : PySem.W.Frag) : R2 := fun x y H Q => rEq x y H Q ∨ rEqD K x y H Q
theorem op_uEq (hu : X.A.units + 64 < cLine) : OpR X (compareOp .Eq) (uEq X.K) := op_eq.or (op_eqD hu)
def uNe (K : PySem.W.Frag) : R2 := fun x y H Q => rNe x y H Q ∨ rNeD K x y H Q
theorem op_uNe (hu : X.A.units + 64 < cLine) : OpR X (compareOp .NotEq) (uNe X.K) := op_ne.or (op_neD hu)
abbrev rLtI : R2 := rI0 fun i j => .bl (decide (i < j))
def uLt : R2 := rLtI
theorem op_uLt : OpR X (compareOp .Lt) uLt := op_lt
def uIn (K : PySem.W.Frag) : R2 := rIn K false
theorem op_uIn : OpR X (compareOp .In) (uIn X.K) := op_in_seq
def uNotIn (K : PySem.W.Frag) : R2 := rIn K true
theorem op_uNotIn : OpR X (compareOp .NotIn) (uNotIn X.K) := op_notIn_seq
abbrev rIsNon : R2 := fun x y H Q => y = .non ∧ Q (.bl (decide (x = .non))) H
abbrev rIsNotNon : R2 := fun x y H Q => y = .non ∧ Q (.bl (!decide (x = .non))) H

/-! ### calls -/
theorem passL2 : ∀ σ, PassesAt (L2.CX X.prog X.w) X σ ((fun _ => E0) σ) := fun _ _ _ _ _ _ _ h => by
  obtain ⟨_, _, _, _, _, _, _, _, _, _, _, _, z⟩ := h
  exact z.elim
/-- a method of a class, by what it promises -/
structure MO (P : Program) (w : World) (K : PySem.W.Frag) (mg : Str → Option Value) (base : Heap) (CX : CXT) (n : Nat) (C : Addr) (m : Str) (sp : Sp) : Prop where
  ex : ∃ f fd ps, Cls K C ∧ Meth K C m f ∧ FnOk P w K mg base CX n f fd ps sp ∧ Binds K fd ps []
variable {CX : CXT} {k : Nat} {f C : Addr} {fd : FuncData} {ps : List Str} {sp : Sp} {dvs : List V} {ds : List Value} {E : L2.St → XK} {x m : Str} {p pos apos : Pos} {e o : Expr} {es : List Expr} {ta : TE} {t : TA}
/-- o.m(..), by the class that o has -/
def rMethD (X : Cx) (CX : CXT) (n : Nat) (m : Str) (E : XK) (σ : L2.St) (t : TA) : V → Hp → VK → Prop := fun x H1 Q => ∃ a C dx fs sp, x = .ref a ∧ H1 a = some (.ins C dx fs) ∧ fs.lookup m = none ∧
  MO X.prog X.w X.K X.mg X.base CX n C m sp ∧ t σ H1 fun vs H2 => sp (x :: vs) H2 Q E
def tMethD (X : Cx) (CX : CXT) (n : Nat) (m : Str) (E : L2.St → XK) (ta : TE) (t : TA) : TE := fun σ H Q => ta σ H fun x H1 => rMethD X CX n m (E σ) σ t x H1 Q
theorem pe_methD {pl : Sem Bool} (he : PE X o ta) (hr : Room k X.A) (hx : ∀ σ, PassesAt CX X σ (E σ)) (ha : PA X (e :: es) t)
    (hst : starEach (e :: es) X.env = (false, eval e X.env) :: starEach es X.env := by rfl) (hpl : (backTo pos (starEach es X.env)).any (·.1) = false := by rfl)
    (ht : eval (.Call (.Attribute o m apos) (e :: es) [] pos) X.env = (do
      let ov ← eval o X.env
      standAt apos.atName
      let (f, first) ← holding [ov] (getMethod ov m pl)
      callWith pos f first (backTo pos (starEach (e :: es) X.env)) (backToKw pos (keywordEach [] X.env))) := by rfl) :
    PE X (.Call (.Attribute o m apos) (e :: es) [] pos) (tMethD X CX k m E ta t) := by
  refine ⟨fun pins s σ H Q I h => ?_⟩
  refine PySem.W.methodCall_KW (pl := pl) (thn (he.run pins s σ H _ I h) fun u s1 ⟨x, H1, I1, rx, a, C, dx, fs, sp, ex, ea, l, mo, q⟩ => ?_) ht
  subst ex
  obtain rfl : u = Value.ref a := rx
  obtain ⟨f, fd, ps, c, hm, F, hb⟩ := mo.ex
  refine getmeth_ok I1 ea c hm l ?_
  refine PySem.W.callWith_K (first := [.ref a]) (h₀ := X.base) I.ok.mod.kin hm.kp (thn (ha.run pos pins s1 σ H1 _ I1 q) fun us s2 ⟨vs, H2, I2, r, q2⟩ => ⟨I2.kIn, ?_⟩) hst hpl
  exact run_fnS (us := .ref a :: us) (vs := .ref a :: vs) F hr hb (hx σ) I2 (.cons rfl r) q2
theorem pe_methD0 {pl : Sem Bool} (he : PE X o ta) (hr : Room k X.A) (hx : ∀ σ, PassesAt CX X σ (E σ))
    (ht : eval (.Call (.Attribute o m apos) [] [] pos) X.env = (do
      let ov ← eval o X.env
      standAt apos.atName
      let (f, first) ← holding [ov] (getMethod ov m pl)
      callWith pos f first (backTo pos (starEach [] X.env)) (backToKw pos (keywordEach [] X.env))) := by rfl) :
    PE X (.Call (.Attribute o m apos) [] [] pos) (tMethD X CX k m E ta tNil) := by
  refine ⟨fun pins s σ H Q I h => ?_⟩
  refine PySem.W.methodCall_KW (pl := pl) (thn (he.run pins s σ H _ I h) fun u s1 ⟨x, H1, I1, rx, a, C, dx, fs, sp, ex, ea, l, mo, q⟩ => ?_) ht
  subst ex
  obtain rfl : u = Value.ref a := rx
  obtain ⟨f, fd, ps, c, hm, F, hb⟩ := mo.ex
  refine getmeth_ok I1 ea c hm l ?_
  exact PySem.W.callWith_K0 (first := [.ref a]) I1.kIn hm.kp (run_fnS (us := [.ref a]) (vs := [.ref a]) F hr hb (hx σ) I1 (.cons rfl .nil) q)
theorem pe_callS0 (F : FnOk X.prog X.w X.K X.mg X.base CX k f fd ps sp) (hr : Room k X.A) (hg : Gl X x) (hm : X.mg x = some (.ref f)) (hk : PySem.W.keepIn X.K (.ref f) = true) (hb : Binds X.K fd ps []) (hx : ∀ σ, PassesAt CX X σ (E σ))
    (hdb : (x == ("__debug__" : Str)) = false := by decide) : PE X (.Call (.Name x p) [] [] pos) (tCallS sp E tNil) := by
  refine ⟨fun pins s σ H Q I h => ?_⟩
  refine wpAny_Call_Name_kw (ld_glob I hg hm ?_ hdb)
  exact PySem.W.callWith_K0 I.kIn hk (run_fnS (us := []) F hr hb (hx σ) I .nil h)
/-- C(..), what is raised at the slots -/
def tMakeS (C : Addr) (sp : Sp) (dvs : List V) (E : L2.St → XK) (t : TA) : TE := fun σ H Q => t σ H fun vs H1 => ∀ x dx, H1 x = none → H1 dx = none → dx ≠ x →
  sp (.ref x :: (vs ++ dvs)) (upd (upd H1 dx (.own x)) x (.ins C dx [])) (fun v H2 => v = .non ∧ Q (.ref x) H2) (E σ)
end

/-! ### steps: statements -/
section
variable {σ : L2.St} {H H1 : Hp} {K : PySem.W.Frag} {D : Ends} {t u : TS} {te ta tb : TE} {c : TT} {i : Nat} {v x y : V} {Q : VK} {QB : Bool → Hp → Prop} {A B : Prop} {b : Bool}
theorem x_seq (h : t { D with nx := u D } σ H) : tSeq t u D σ H := h
theorem x_next (q : D.nx σ H) : tNext D σ H := q
theorem x_asg {g : TG} (h : te σ H fun x H1 => g x σ H1 D.nx) : tAsg te g D σ H := h
theorem x_gname {QS : L2.St → Hp → Prop} (q : QS (σ.set i (some v)) H) : gName i v σ H QS := q
theorem x_ret (h : te σ H D.rt) : tRet te D σ H := h
theorem x_retN (h : D.rt .non H) : tRetN D σ H := h
theorem x_drop (h : te σ H fun _ H1 => D.nx σ H1) : tDrop te D σ H := h
theorem x_if (h : c σ H fun b H1 => if b = true then t D σ H1 else u D σ H1) : tIfS c t u D σ H := h
theorem x_iteT (h : A) : if true = true then A else B := iteT h
theorem x_iteF (h : B) : if false = true then A else B := iteF h
theorem x_iteD {p : Prop} [Decidable p] (h1 : p → A) (h2 : ¬ p → B) : if decide p = true then A else B := by
  by_cases h : p
  · rw [decide_eq_true h]; exact iteT (h1 h)
  · rw [decide_eq_false h]; exact iteF (h2 h)
theorem x_iteN (h : if b = true then B else A) : if (!b) = true then A else B := by
  cases b with
  | true => exact h
  | false => exact h
theorem x_iteB (h1 : b = true → A) (h2 : b = false → B) : if b = true then A else B := by
  cases b with
  | true => exact iteT (h1 rfl)
  | false => exact iteF (h2 rfl)
/-! ### steps: expressions -/
theorem x_var (h : σ[i]? = some (some v)) (q : Q v H) : tVar i σ H Q := ⟨v, h, q⟩
theorem x_c (q : Q v H) : tC v σ H Q := q
theorem x_op {r : R2} (h : ta σ H fun x H1 => tb σ H1 fun y H2 => r x y H2 Q) : tOp r ta tb σ H Q := h
theorem x_un {r : V → Hp → VK → Prop} (h : ta σ H fun x H1 => r x H1 Q) : tUn r ta σ H Q := h
theorem x_cb {r : List V → Hp → VK → Prop} {t : TA} (h : t σ H fun vs H1 => r vs H1 Q) : tCB r t σ H Q := h
theorem x_nil {QA : List V → Hp → Prop} (q : QA [] H) : tNil σ H QA := q
theorem x_cons {QA : List V → Hp → Prop} {tr : TA} (h : ta σ H fun x H1 => tr σ H1 fun xs H2 => QA (x :: xs) H2) : tCons ta tr σ H QA := h
theorem x_callS {sp : Sp} {E : L2.St → XK} {t : TA} (h : t σ H fun vs H1 => sp vs H1 Q (E σ)) : tCallS sp E t σ H Q := h
theorem x_ifExp (h : c σ H fun c H1 => if c = true then ta σ H1 Q else tb σ H1 Q) : tIf c ta tb σ H Q := h
theorem x_test (h : te σ H fun x H' => ∃ k, x = .bl k ∧ QB k H') : tTest te σ H QB := h
theorem x_tB (h : te σ H fun x H' => ∃ k, x = .bl k ∧ QB k H') : tB te σ H QB := h
theorem x_and {t u : TT} (h : t σ H fun c H1 => if c = true then u σ H1 QB else QB false H1) : tAnd t u σ H QB := h
theorem x_or {t u : TT} (h : t σ H fun c H1 => if c = true then QB true H1 else u σ H1 QB) : tOr t u σ H QB := h
theorem x_not {t : TT} (h : t σ H fun c H1 => QB (!c) H1) : tNot t σ H QB := h
theorem x_andT (h : ta σ H fun x H1 => ∃ k, TruV K x H1 k ∧ if k = true then tb σ H1 Q else Q x H1) : tAndT K ta tb σ H Q := h
theorem x_orT (h : ta σ H fun x H1 => ∃ k, TruV K x H1 k ∧ if k = true then Q x H1 else tb σ H1 Q) : tOrT K ta tb σ H Q := h
theorem x_notT (h : ta σ H fun x H1 => ∃ k, TruV K x H1 k ∧ Q (.bl (!k)) H1) : tNotT K ta σ H Q := h
theorem x_truB (q : A) {P : Bool → Prop} (h : P b) : ∃ k, TruV K (.bl b) H k ∧ P k := ⟨b, rfl, h⟩
theorem x_truBl {P : Bool → Prop} (h : P b) : ∃ k, TruV K (.bl b) H k ∧ P k := ⟨b, rfl, h⟩
theorem x_isbl {P : Bool → Prop} (h : P b) : ∃ k, V.bl b = .bl k ∧ P k := ⟨b, rfl, h⟩
theorem x_chain {r r' : R2} {tc : TE} (h : ta σ H fun x H1 => tb σ H1 fun y H2 => r x y H2 fun z H3 => ∃ k, z = .bl k ∧ if k = true then tc σ H3 fun z' H4 => r' y z' H4 Q else Q (.bl false) H3) : tChain r r' ta tb tc σ H Q := h
/-! ### steps: operators on values -/
variable {m n : Int} {s1 s2 : Str}
theorem x_addI (q : Q (.int (m + n)) H) : uAdd K (.int m) (.int n) H Q := .inl ⟨m, n, rfl, rfl, q⟩
theorem x_addS (q : Q (.str (s1 ++ s2)) H) (h : s1.length + s2.length ≤ sizeLine) : uAdd K (.str s1) (.str s2) H Q := .inr (.inl ⟨s1, s2, rfl, rfl, h, q⟩)
theorem x_I0 {g : Int → Int → V} (q : Q (g m n) H) : rI0 g (.int m) (.int n) H Q := ⟨m, n, rfl, rfl, q⟩
theorem x_I {C : Int → Int → Prop} {g : Int → Int → V} (q : Q (g m n) H) (h : C m n) : rI C g (.int m) (.int n) H Q := ⟨m, n, rfl, rfl, h, q⟩
theorem x_lt (q : Q (.bl (decide (m < n))) H) : uLt (.int m) (.int n) H Q := ⟨m, n, rfl, rfl, q⟩
theorem x_mulI (q : Q (.int (m * n)) H) (h : CMulW m n) : uMul (.int m) (.int n) H Q := .inl ⟨m, n, rfl, rfl, h, q⟩
theorem same_upd {o : HO} {p : Addr} (h : H p = none) : Same H (upd H p o) := fun b u e => by rw [upd_ne (ne_of_none e h)]; exact e
/-- a new object: what is asked of it -/
abbrev New (H : Hp) (Q : VK) (o : HO) : Prop := ∀ p H1, H p = none → Same H H1 → H1 p = some o → Q (.ref p) H1
theorem New.mk {o : HO} (h : New H Q o) : ∀ p, H p = none → Q (.ref p) (upd H p o) := fun p hp => h p _ hp (same_upd hp) upd_same
def nwL (Q : VK) : List V → Hp → Prop := fun xs H1 => xs.length ≤ sizeLine ∧ ∀ p, H1 p = none → Q (.ref p) (upd H1 p (.lst xs))
def nwT (Q : VK) : List V → Hp → Prop := fun xs H1 => xs.length ≤ sizeLine ∧ ∀ p, H1 p = none → Q (.ref p) (upd H1 p (.tup xs))
theorem x_nwL {xs : List V} (h : New H Q (.lst xs)) (hl : xs.length ≤ sizeLine) : nwL Q xs H := ⟨hl, h.mk⟩
theorem x_nwT {xs : List V} (h : New H Q (.tup xs)) (hl : xs.length ≤ sizeLine) : nwT Q xs H := ⟨hl, h.mk⟩
theorem x_addL {l l' : Addr} {xs ys : List V} (h1 : H l = some (.lst xs)) (h2 : H l' = some (.lst ys)) (q : New H Q (.lst (xs ++ ys))) (hl : xs.length + ys.length ≤ sizeLine) : uAdd K (.ref l) (.ref l') H Q :=
  .inr (.inr (.inl ⟨l, l', xs, ys, rfl, rfl, h1, h2, hl, q.mk⟩))
theorem x_rep {l : Addr} {xs : List V} (h1 : H l = some (.lst xs)) (q : New H Q (.lst (List.replicate n.toNat xs).flatten)) (h2 : n < 2 ^ 63) (h0 : 0 ≤ n) (hl : xs.length * n.toNat ≤ sizeLine) : uMul (.ref l) (.int n) H Q :=
  .inr ⟨l, n, xs, rfl, rfl, h1, Int.le_trans (by decide) h0, h2, hl, q.mk⟩
theorem x_shl (q : Q (.int (m * 2 ^ n.toNat)) H) (h : CShl m n) : uShl (.int m) (.int n) H Q := ⟨m, n, rfl, rfl, h, q⟩
theorem x_U {g : Int → V} (q : Q (g m) H) : rU g (.int m) H Q := ⟨m, rfl, q⟩
theorem x_eqI (q : Q (.bl (decide (m = n))) H) : uEq K (.int m) (.int n) H Q := .inl ⟨rfl, by rw [dec_int, ← Bool.beq_eq_decide_eq] at *; exact q⟩
theorem x_neI (q : Q (.bl (!decide (m = n))) H) : uNe K (.int m) (.int n) H Q := .inl ⟨rfl, by rw [dec_int, ← Bool.beq_eq_decide_eq] at *; exact q⟩
theorem x_eqB {b c : Bool} (q : Q (.bl (decide (b = c))) H) : uEq K (.bl b) (.bl c) H Q := .inl ⟨rfl, by rw [dec_bl, ← Bool.beq_eq_decide_eq] at *; exact q⟩
theorem x_neB {b c : Bool} (q : Q (.bl (!decide (b = c))) H) : uNe K (.bl b) (.bl c) H Q := .inl ⟨rfl, by rw [dec_bl, ← Bool.beq_eq_decide_eq] at *; exact q⟩
theorem x_eqS (q : Q (.bl (decide (s1 = s2))) H) : uEq K (.str s1) (.str s2) H Q := .inl ⟨rfl, by rw [dec_str] at *; rw [show decide (s1 = s2) = (s1 == s2) from by rw [Bool.beq_eq_decide_eq]] at q; exact q⟩
theorem x_tup {t : TA} (h : t σ H (nwT Q)) : tTup t σ H Q := h
theorem x_lst {t : TA} (h : t σ H (nwL Q)) : tLst t σ H Q := h
/-! ### steps: sequences -/
variable {p : Addr} {xs : List V} {ns : List Int}
theorem atI_getD {α : Type} {xs : List α} {i : Int} (d : α) (h0 : 0 ≤ i) (h1 : i < xs.length) : atI xs i = some (xs.getD i.toNat d) := by
  obtain ⟨j, rfl⟩ : ∃ j : Nat, i = (j : Int) := ⟨i.toNat, by omega⟩
  have hj : j < xs.length := by omega
  exact atI_nat (by simp [hj])
theorem x_ixI (h : SqL K H p (ns.map V.int)) (q : Q (.int (ns.getD n.toNat 0)) H) (h0 : 0 ≤ n) (h1 : n < ns.length) : rIx K (.ref p) (.int n) H Q :=
  .inl ⟨p, _, n, _, rfl, rfl, h, by
    rw [atI_getD (.int 0) h0 (by rw [List.length_map]; exact h1)]
    have hn : n.toNat < ns.length := by omega
    simp [hn], q⟩
theorem x_ixL (h : SqL K H p xs) (q : Q (xs.getD n.toNat .non) H) (h0 : 0 ≤ n) (h1 : n < xs.length) : rIx K (.ref p) (.int n) H Q :=
  .inl ⟨p, _, n, _, rfl, rfl, h, atI_getD _ h0 h1, q⟩
theorem x_ixT (h : SqT K H p xs) (ha : atI xs n = some v) (q : Q v H) : rIx K (.ref p) (.int n) H Q :=
  .inr (.inl ⟨p, _, n, _, rfl, rfl, h, ha, q⟩)
end

/-! ### built-in calls -/
section
variable {X : Cx}
def uLen (K : PySem.W.Frag) : List V → Hp → VK → Prop := fun xs H Q => (∃ p ys, xs = [.ref p] ∧ (SqL K H p ys ∨ SqT K H p ys) ∧ Q (.int ys.length) H) ∨ (∃ z, xs = [.str z] ∧ z.length ≤ sizeLine ∧ Q (.int z.length) H)
theorem cr_ulen : CallR X (.builtin "len") (uLen X.K) := call_len_seq.or call_len_str
def uIsi (K : PySem.W.Frag) : List V → Hp → VK → Prop := rIsi K
theorem cr_uisinstance : CallR X (.builtin "isinstance") (uIsi X.K) := call_isi
def uStr : List V → Hp → VK → Prop := fun xs H Q => ∃ i, xs = [.int i] ∧ i.natAbs.log2 < 1920 ∧ Q (.str (toString i)) H
theorem ct_str : CallR X (.type "str") uStr := call_str_int
theorem bt_isinstance : bootBuiltins "isinstance" = some (.builtin "isinstance") := by decide +kernel
theorem bt_int : bootBuiltins "int" = some (.type "int") := by decide +kernel
theorem bt_bool : bootBuiltins "bool" = some (.type "bool") := by decide +kernel
theorem bt_str : bootBuiltins "str" = some (.type "str") := by decide +kernel
theorem bt_list : bootBuiltins "list" = some (.type "list") := by decide +kernel
theorem bt_tuple : bootBuiltins "tuple" = some (.type "tuple") := by decide +kernel
theorem bt_dict : bootBuiltins "dict" = some (.type "dict") := by decide +kernel
theorem bt_len : bootBuiltins "len" = some (.builtin "len") := by decide +kernel
end
section
variable {σ : L2.St} {H : Hp} {K : PySem.W.Frag} {Q : VK} {p : Addr} {xs : List V} {n : Int} {v : V}
theorem x_lenL (h : SqL K H p xs) (q : Q (.int xs.length) H) : uLen K [.ref p] H Q := .inl ⟨p, xs, rfl, .inl h, q⟩
theorem x_lenM {α : Type} {l : List α} {f : α → V} (h : SqL K H p (l.map f)) (q : Q (.int l.length) H) : uLen K [.ref p] H Q := .inl ⟨p, _, rfl, .inl h, by rw [List.length_map]; exact q⟩
theorem x_lenT (h : SqT K H p xs) (q : Q (.int xs.length) H) : uLen K [.ref p] H Q := .inl ⟨p, xs, rfl, .inr h, q⟩
/-- the built-in class of a value -/
def tyN : V → Option String
  | .non => some "NoneType" | .bl _ => some "bool" | .int _ => some "int" | .str _ => some "str" | .flt _ => some "float" | _ => none
theorem x_isiV {c : String} {t : String} {b : Bool} (ht : tyN v = some t) (hk : kitB t c = some b) (q : Q (.bl b) H) : uIsi K [v, .ty c] H Q := by
  have ty : TyX K H v (.type t) := by
    cases v <;> simp only [tyN, Option.some.injEq, reduceCtorEq] at ht <;> subst ht
    · exact .base .non
    · exact .base (.bl _)
    · exact .base (.int _)
    · exact .base (.str _)
    · exact .base (.flt _)
  exact ⟨v, .ty c, .type t, .type c, b, rfl, .ty c, ty, kit_ty hk, q⟩
theorem x_isiR {c t : String} {b : Bool} (ty : TyX K H (.ref p) (.type t)) (hk : kitB t c = some b) (q : Q (.bl b) H) : uIsi K [.ref p, .ty c] H Q :=
  ⟨.ref p, .ty c, .type t, .type c, b, rfl, .ty c, ty, kit_ty hk, q⟩
theorem x_isiNon_int (q : Q (.bl false) H) : uIsi K [V.non, .ty "int"] H Q := x_isiV rfl (by decide +kernel) q
theorem x_isiNon_bool (q : Q (.bl false) H) : uIsi K [V.non, .ty "bool"] H Q := x_isiV rfl (by decide +kernel) q
theorem x_isiNon_str (q : Q (.bl false) H) : uIsi K [V.non, .ty "str"] H Q := x_isiV rfl (by decide +kernel) q
theorem x_isiNon_list (q : Q (.bl false) H) : uIsi K [V.non, .ty "list"] H Q := x_isiV rfl (by decide +kernel) q
theorem x_isiNon_tuple (q : Q (.bl false) H) : uIsi K [V.non, .ty "tuple"] H Q := x_isiV rfl (by decide +kernel) q
theorem x_isiNon_dict (q : Q (.bl false) H) : uIsi K [V.non, .ty "dict"] H Q := x_isiV rfl (by decide +kernel) q
theorem x_isiBl_int {b : Bool} (q : Q (.bl true) H) : uIsi K [(V.bl b), .ty "int"] H Q := x_isiV rfl (by decide +kernel) q
theorem x_isiBl_bool {b : Bool} (q : Q (.bl true) H) : uIsi K [(V.bl b), .ty "bool"] H Q := x_isiV rfl (by decide +kernel) q
theorem x_isiBl_str {b : Bool} (q : Q (.bl false) H) : uIsi K [(V.bl b), .ty "str"] H Q := x_isiV rfl (by decide +kernel) q
theorem x_isiBl_list {b : Bool} (q : Q (.bl false) H) : uIsi K [(V.bl b), .ty "list"] H Q := x_isiV rfl (by decide +kernel) q
theorem x_isiBl_tuple {b : Bool} (q : Q (.bl false) H) : uIsi K [(V.bl b), .ty "tuple"] H Q := x_isiV rfl (by decide +kernel) q
theorem x_isiBl_dict {b : Bool} (q : Q (.bl false) H) : uIsi K [(V.bl b), .ty "dict"] H Q := x_isiV rfl (by decide +kernel) q
theorem x_isiInt_int (q : Q (.bl true) H) : uIsi K [(V.int n), .ty "int"] H Q := x_isiV rfl (by decide +kernel) q
theorem x_isiInt_bool (q : Q (.bl false) H) : uIsi K [(V.int n), .ty "bool"] H Q := x_isiV rfl (by decide +kernel) q
theorem x_isiInt_str (q : Q (.bl false) H) : uIsi K [(V.int n), .ty "str"] H Q := x_isiV rfl (by decide +kernel) q
theorem x_isiInt_list (q : Q (.bl false) H) : uIsi K [(V.int n), .ty "list"] H Q := x_isiV rfl (by decide +kernel) q
theorem x_isiInt_tuple (q : Q (.bl false) H) : uIsi K [(V.int n), .ty "tuple"] H Q := x_isiV rfl (by decide +kernel) q
theorem x_isiInt_dict (q : Q (.bl false) H) : uIsi K [(V.int n), .ty "dict"] H Q := x_isiV rfl (by decide +kernel) q
theorem x_isiStr_int {z : Str} (q : Q (.bl false) H) : uIsi K [(V.str z), .ty "int"] H Q := x_isiV rfl (by decide +kernel) q
theorem x_isiStr_bool {z : Str} (q : Q (.bl false) H) : uIsi K [(V.str z), .ty "bool"] H Q := x_isiV rfl (by decide +kernel) q
theorem x_isiStr_str {z : Str} (q : Q (.bl true) H) : uIsi K [(V.str z), .ty "str"] H Q := x_isiV rfl (by decide +kernel) q
theorem x_isiStr_list {z : Str} (q : Q (.bl false) H) : uIsi K [(V.str z), .ty "list"] H Q := x_isiV rfl (by decide +kernel) q
theorem x_isiStr_tuple {z : Str} (q : Q (.bl false) H) : uIsi K [(V.str z), .ty "tuple"] H Q := x_isiV rfl (by decide +kernel) q
theorem x_isiStr_dict {z : Str} (q : Q (.bl false) H) : uIsi K [(V.str z), .ty "dict"] H Q := x_isiV rfl (by decide +kernel) q
theorem x_isiLst_int (h : H p = some (.lst xs)) (q : Q (.bl false) H) : uIsi K [.ref p, .ty "int"] H Q := x_isiR (.base (.lst h)) (by decide +kernel) q
theorem x_isiLst_bool (h : H p = some (.lst xs)) (q : Q (.bl false) H) : uIsi K [.ref p, .ty "bool"] H Q := x_isiR (.base (.lst h)) (by decide +kernel) q
theorem x_isiLst_str (h : H p = some (.lst xs)) (q : Q (.bl false) H) : uIsi K [.ref p, .ty "str"] H Q := x_isiR (.base (.lst h)) (by decide +kernel) q
theorem x_isiLst_list (h : H p = some (.lst xs)) (q : Q (.bl true) H) : uIsi K [.ref p, .ty "list"] H Q := x_isiR (.base (.lst h)) (by decide +kernel) q
theorem x_isiLst_tuple (h : H p = some (.lst xs)) (q : Q (.bl false) H) : uIsi K [.ref p, .ty "tuple"] H Q := x_isiR (.base (.lst h)) (by decide +kernel) q
theorem x_isiLst_dict (h : H p = some (.lst xs)) (q : Q (.bl false) H) : uIsi K [.ref p, .ty "dict"] H Q := x_isiR (.base (.lst h)) (by decide +kernel) q
theorem x_isiTup_int (h : H p = some (.tup xs)) (q : Q (.bl false) H) : uIsi K [.ref p, .ty "int"] H Q := x_isiR (.base (.tup h)) (by decide +kernel) q
theorem x_isiTup_bool (h : H p = some (.tup xs)) (q : Q (.bl false) H) : uIsi K [.ref p, .ty "bool"] H Q := x_isiR (.base (.tup h)) (by decide +kernel) q
theorem x_isiTup_str (h : H p = some (.tup xs)) (q : Q (.bl false) H) : uIsi K [.ref p, .ty "str"] H Q := x_isiR (.base (.tup h)) (by decide +kernel) q
theorem x_isiTup_list (h : H p = some (.tup xs)) (q : Q (.bl false) H) : uIsi K [.ref p, .ty "list"] H Q := x_isiR (.base (.tup h)) (by decide +kernel) q
theorem x_isiTup_tuple (h : H p = some (.tup xs)) (q : Q (.bl true) H) : uIsi K [.ref p, .ty "tuple"] H Q := x_isiR (.base (.tup h)) (by decide +kernel) q
theorem x_isiTup_dict (h : H p = some (.tup xs)) (q : Q (.bl false) H) : uIsi K [.ref p, .ty "dict"] H Q := x_isiR (.base (.tup h)) (by decide +kernel) q
theorem x_isiDk_int {kvs : List (Key × V)} (h : H p = some (.dK kvs)) (q : Q (.bl false) H) : uIsi K [.ref p, .ty "int"] H Q := x_isiR (.base (.dK h)) (by decide +kernel) q
theorem x_isiDk_bool {kvs : List (Key × V)} (h : H p = some (.dK kvs)) (q : Q (.bl false) H) : uIsi K [.ref p, .ty "bool"] H Q := x_isiR (.base (.dK h)) (by decide +kernel) q
theorem x_isiDk_str {kvs : List (Key × V)} (h : H p = some (.dK kvs)) (q : Q (.bl false) H) : uIsi K [.ref p, .ty "str"] H Q := x_isiR (.base (.dK h)) (by decide +kernel) q
theorem x_isiDk_list {kvs : List (Key × V)} (h : H p = some (.dK kvs)) (q : Q (.bl false) H) : uIsi K [.ref p, .ty "list"] H Q := x_isiR (.base (.dK h)) (by decide +kernel) q
theorem x_isiDk_tuple {kvs : List (Key × V)} (h : H p = some (.dK kvs)) (q : Q (.bl false) H) : uIsi K [.ref p, .ty "tuple"] H Q := x_isiR (.base (.dK h)) (by decide +kernel) q
theorem x_isiDk_dict {kvs : List (Key × V)} (h : H p = some (.dK kvs)) (q : Q (.bl true) H) : uIsi K [.ref p, .ty "dict"] H Q := x_isiR (.base (.dK h)) (by decide +kernel) q
theorem x_str (q : Q (.str (toString n)) H) (h : n.natAbs.log2 < 1920) : uStr [.int n] H Q := ⟨n, rfl, h, q⟩
end
end Kit

namespace My
open PySem L2 Kit

def top (i : Nat) : Stmt := PySem.Challenge.pw_wornpages_k01_whole_numbers.main.body.getD i (.Pass ⟨0, 0, 0, 0⟩)
abbrev s_is_whole : Stmt := top 1
abbrev N_is_whole : List Str := ["thing"]
theorem sc_is_whole : FnScope N_is_whole ["thing"] (defScope s_is_whole) := ⟨rfl, rfl, rfl, by decide +kernel, rfl, by decide +kernel, by decide +kernel⟩
abbrev s_is_within : Stmt := top 2
abbrev N_is_within : List Str := ["thing", "low", "high"]
theorem sc_is_within : FnScope N_is_within ["thing", "low", "high"] (defScope s_is_within) := ⟨rfl, rfl, rfl, by decide +kernel, rfl, by decide +kernel, by decide +kernel⟩
abbrev s__law_cell_at : Stmt := top 4
abbrev N__law_cell_at : List Str := ["_law_script", "_law_k"]
theorem sc__law_cell_at : FnScope N__law_cell_at ["_law_script", "_law_k"] (defScope s__law_cell_at) := ⟨rfl, rfl, rfl, by decide +kernel, rfl, by decide +kernel, by decide +kernel⟩
abbrev s__law_number : Stmt := top 5
abbrev N__law_number : List Str := ["_law_cell"]
theorem sc__law_number : FnScope N__law_number ["_law_cell"] (defScope s__law_number) := ⟨rfl, rfl, rfl, by decide +kernel, rfl, by decide +kernel, by decide +kernel⟩
abbrev s__law_thing : Stmt := top 6
abbrev N__law_thing : List Str := ["_law_kind", "_law_low", "_law_high", "_law_number_here", "_law_some"]
theorem sc__law_thing : FnScope N__law_thing ["_law_kind", "_law_low", "_law_high", "_law_number_here"] (defScope s__law_thing) := ⟨rfl, rfl, rfl, by decide +kernel, rfl, by decide +kernel, by decide +kernel⟩
abbrev s__law_same : Stmt := top 7
abbrev N__law_same : List Str := ["_law_found", "_law_due"]
theorem sc__law_same : FnScope N__law_same ["_law_found", "_law_due"] (defScope s__law_same) := ⟨rfl, rfl, rfl, by decide +kernel, rfl, by decide +kernel, by decide +kernel⟩
abbrev s_law : Stmt := top 8
abbrev N_law : List Str := ["_law_script", "_law_low", "_law_high", "_law_kind", "_law_thing_here", "_law_whole", "_law_within"]
theorem sc_law : FnScope N_law ["_law_script"] (defScope s_law) := ⟨rfl, rfl, rfl, by decide +kernel, rfl, by decide +kernel, by decide +kernel⟩
/-! steps of a reading: "s" one step, "go" as far as it goes -/
local macro_rules | `(tactic| walk_at "sq") => `(tactic| first | assumption | exact SqL.of (by assumption) | exact SqT.of (by assumption) | (refine Same.seq (by assumption) ?_; walk_at "sq") | (refine SqT.of ?_; walk_at "hp"))
local macro_rules | `(tactic| walk_at "hp") => `(tactic| first | assumption | (refine (show Same _ _ by assumption) _ _ ?_; walk_at "hp"))
local macro_rules | `(tactic| walk_at "side") => `(tactic| first | assumption | decide | omega | exact ⟨by decide, by decide, by decide⟩ | exact ⟨by decide, by decide +kernel⟩ | (simp only [List.length_cons, List.length_nil, List.length_append, Nat.zero_add, Nat.reduceAdd, Nat.reduceMul]; decide) | (simp only [List.length_append, List.length_cons, List.length_nil, List.length_map]; omega) | (simp; done))
local macro_rules | `(tactic| walk_at "isi") => `(tactic| first
  | with_reducible refine x_isiNon_int ?_
  | with_reducible refine x_isiNon_bool ?_
  | with_reducible refine x_isiNon_str ?_
  | with_reducible refine x_isiNon_list ?_
  | with_reducible refine x_isiNon_tuple ?_
  | with_reducible refine x_isiNon_dict ?_
  | with_reducible refine x_isiBl_int ?_
  | with_reducible refine x_isiBl_bool ?_
  | with_reducible refine x_isiBl_str ?_
  | with_reducible refine x_isiBl_list ?_
  | with_reducible refine x_isiBl_tuple ?_
  | with_reducible refine x_isiBl_dict ?_
  | with_reducible refine x_isiInt_int ?_
  | with_reducible refine x_isiInt_bool ?_
  | with_reducible refine x_isiInt_str ?_
  | with_reducible refine x_isiInt_list ?_
  | with_reducible refine x_isiInt_tuple ?_
  | with_reducible refine x_isiInt_dict ?_
  | with_reducible refine x_isiStr_int ?_
  | with_reducible refine x_isiStr_bool ?_
  | with_reducible refine x_isiStr_str ?_
  | with_reducible refine x_isiStr_list ?_
  | with_reducible refine x_isiStr_tuple ?_
  | with_reducible refine x_isiStr_dict ?_
  | with_reducible refine x_isiLst_int (by assumption) ?_
  | with_reducible refine x_isiLst_bool (by assumption) ?_
  | with_reducible refine x_isiLst_str (by assumption) ?_
  | with_reducible refine x_isiLst_list (by assumption) ?_
  | with_reducible refine x_isiLst_tuple (by assumption) ?_
  | with_reducible refine x_isiLst_dict (by assumption) ?_
  | with_reducible refine x_isiTup_int (by assumption) ?_
  | with_reducible refine x_isiTup_bool (by assumption) ?_
  | with_reducible refine x_isiTup_str (by assumption) ?_
  | with_reducible refine x_isiTup_list (by assumption) ?_
  | with_reducible refine x_isiTup_tuple (by assumption) ?_
  | with_reducible refine x_isiTup_dict (by assumption) ?_
  | with_reducible refine x_isiDk_int (by assumption) ?_
  | with_reducible refine x_isiDk_bool (by assumption) ?_
  | with_reducible refine x_isiDk_str (by assumption) ?_
  | with_reducible refine x_isiDk_list (by assumption) ?_
  | with_reducible refine x_isiDk_tuple (by assumption) ?_
  | with_reducible refine x_isiDk_dict (by assumption) ?_)
local macro_rules | `(tactic| walk_at "s") => `(tactic| first
  | walk_at "u"
  | with_reducible refine x_seq ?_
  | with_reducible refine x_asg ?_
  | ((with_reducible refine' x_var ?hv ?_); case hv => exact rfl)
  | with_reducible refine x_c ?_
  | with_reducible refine x_op ?_
  | with_reducible refine x_cb ?_
  | with_reducible refine x_cons ?_
  | with_reducible refine x_nil ?_
  | with_reducible refine x_gname ?_
  | with_reducible refine x_if ?_
  | with_reducible refine x_ret ?_
  | with_reducible refine x_test ?_
  | ((with_reducible refine x_isbl ?_); try dsimp only)
  | ((with_reducible refine x_truBl ?_); try dsimp only)
  | with_reducible refine x_callS ?_
  | with_reducible refine x_iteT ?_
  | with_reducible refine x_iteF ?_
  | with_reducible refine x_iteN ?_
  | with_reducible refine x_I0 ?_
  | with_reducible refine x_addI ?_
  | with_reducible refine x_lt ?_
  | ((with_reducible refine x_I ?_ ?hs); (try (case hs => walk_at "side")))
  | ((with_reducible refine x_mulI ?_ ?hs); (try (case hs => walk_at "side")))
  | with_reducible refine x_eqI ?_
  | with_reducible refine x_neI ?_
  | with_reducible refine x_eqB ?_
  | with_reducible refine x_neB ?_
  | with_reducible refine x_eqS ?_
  | with_reducible refine x_andT ?_
  | with_reducible refine x_orT ?_
  | with_reducible refine x_notT ?_
  | with_reducible refine x_and ?_
  | with_reducible refine x_or ?_
  | with_reducible refine x_not ?_
  | with_reducible refine x_chain ?_
  | with_reducible refine x_tB ?_
  | with_reducible refine x_tup ?_
  | with_reducible refine x_lst ?_
  | with_reducible refine x_un ?_
  | ((with_reducible refine x_nwL ?_ ?hs); (try (case hs => walk_at "side")); intro p H1 hp hs hn)
  | ((with_reducible refine x_nwT ?_ ?hs); (try (case hs => walk_at "side")); intro p H1 hp hs hn)
  | ((with_reducible refine' x_addL ?h1 ?h2 ?_ ?hs); (case h1 => walk_at "hp"); (case h2 => walk_at "hp"); (try (case hs => walk_at "side")); intro p H1 hp hs hn)
  | ((with_reducible refine' x_rep ?h1 ?_ ?h2 ?h0 ?hs); (case h1 => walk_at "hp"); (try (case h2 => walk_at "side")); (try (case h0 => walk_at "side")); (try (case hs => walk_at "side")); intro p H1 hp hs hn)
  | ((with_reducible refine' x_addS ?_ ?hs); (try (case hs => walk_at "side")))
  | with_reducible refine x_U ?_
  | with_reducible refine x_drop ?_
  | with_reducible refine x_retN ?_
  | with_reducible refine x_next ?_
  | with_reducible refine x_ifExp ?_
  | ((with_reducible refine' x_lenM ?hq ?_); case hq => walk_at "sq")
  | ((with_reducible refine' x_lenL ?hq ?_); case hq => walk_at "sq")
  | ((with_reducible refine' x_lenT ?hq ?_); case hq => walk_at "sq")
  | ((with_reducible refine' x_ixI ?hq ?_ ?h0 ?h1); (case hq => walk_at "sq"); (try (case h0 => walk_at "side")); (try (case h1 => walk_at "side")))
  | ((with_reducible refine' x_ixL ?hq ?_ ?h0 ?h1); (case hq => walk_at "sq"); (try (case h0 => walk_at "side")); (try (case h1 => walk_at "side")))
  | ((with_reducible refine' x_ixT ?hq ?ha ?_); (case hq => walk_at "sq"); case ha => exact rfl)
  | walk_at "isi"
  | ((with_reducible refine x_str ?_ ?hs); (try (case hs => walk_at "side"))))
local macro_rules | `(tactic| walk_at "go") => `(tactic| repeat walk_at "s")
local macro_rules | `(tactic| walk_at "begin") => `(tactic| simp only [cxOf, L2.start, List.map, List.length_cons, List.length_nil, List.replicate, Nat.reduceAdd, Nat.reduceSub, List.cons_append, List.nil_append])

--#LAWSPEC 4

structure Txt (K : PySem.W.Frag) (mg : Str → Option Value) where
  a_is_whole : Addr
  fd_is_whole : FuncData
  F_is_whole : Fun K "is_whole" "is_whole" s_is_whole a_is_whole fd_is_whole
  bd_is_whole : Binds K fd_is_whole ["thing"] []
  k_is_whole : PySem.W.keepIn K (.ref a_is_whole) = true
  g_is_whole : mg "is_whole" = some (.ref a_is_whole)
  a_is_within : Addr
  fd_is_within : FuncData
  F_is_within : Fun K "is_within" "is_within" s_is_within a_is_within fd_is_within
  bd_is_within : Binds K fd_is_within ["thing", "low", "high"] []
  k_is_within : PySem.W.keepIn K (.ref a_is_within) = true
  g_is_within : mg "is_within" = some (.ref a_is_within)
  a__law_cell_at : Addr
  fd__law_cell_at : FuncData
  F__law_cell_at : Fun K "_law_cell_at" "_law_cell_at" s__law_cell_at a__law_cell_at fd__law_cell_at
  bd__law_cell_at : Binds K fd__law_cell_at ["_law_script", "_law_k"] []
  k__law_cell_at : PySem.W.keepIn K (.ref a__law_cell_at) = true
  g__law_cell_at : mg "_law_cell_at" = some (.ref a__law_cell_at)
  a__law_number : Addr
  fd__law_number : FuncData
  F__law_number : Fun K "_law_number" "_law_number" s__law_number a__law_number fd__law_number
  bd__law_number : Binds K fd__law_number ["_law_cell"] []
  k__law_number : PySem.W.keepIn K (.ref a__law_number) = true
  g__law_number : mg "_law_number" = some (.ref a__law_number)
  a__law_thing : Addr
  fd__law_thing : FuncData
  F__law_thing : Fun K "_law_thing" "_law_thing" s__law_thing a__law_thing fd__law_thing
  bd__law_thing : Binds K fd__law_thing ["_law_kind", "_law_low", "_law_high", "_law_number_here"] []
  k__law_thing : PySem.W.keepIn K (.ref a__law_thing) = true
  g__law_thing : mg "_law_thing" = some (.ref a__law_thing)
  a__law_same : Addr
  fd__law_same : FuncData
  F__law_same : Fun K "_law_same" "_law_same" s__law_same a__law_same fd__law_same
  bd__law_same : Binds K fd__law_same ["_law_found", "_law_due"] []
  k__law_same : PySem.W.keepIn K (.ref a__law_same) = true
  g__law_same : mg "_law_same" = some (.ref a__law_same)
  a_law : Addr
  fd_law : FuncData
  F_law : Fun K "law" "law" s_law a_law fd_law
  bd_law : Binds K fd_law ["_law_script"] []
  k_law : PySem.W.keepIn K (.ref a_law) = true
  b_len : mg "len" = none
  b_isinstance : mg "isinstance" = none
  b_int : mg "int" = none
  b_str : mg "str" = none
  b_bool : mg "bool" = none

section
variable {P : Program} {w : World} {K : PySem.W.Frag} {mg : Str → Option Value} {base : Heap}
abbrev FO (P : Program) (w : World) (K : PySem.W.Frag) (mg : Str → Option Value) (base : Heap) := FnOk P w K mg base (L2.CX P w)
/-! ### the law's reader -/
def cl (ns : List Int) (k : Int) : Int := ns.getD k.toNat 0
def spCell (K : PySem.W.Frag) : Sp := fun vs H Q _ => ∃ (a : Addr) (ns : List Int) (k : Int), vs = [.ref a, .int k] ∧ SqL K H a (ns.map V.int) ∧ 0 ≤ k ∧ Q (.int (cl ns k)) H
theorem ok_cell_at (T : Txt K mg) : FO P w K mg base 1 T.a__law_cell_at T.fd__law_cell_at ["_law_script", "_law_k"] (spCell K) := by
  have sc := sc__law_cell_at
  refine T.F__law_cell_at.okX sc (fun vs H Q E h => ?_) (fun cdv A outer s H vs Q E hr h => ?_)
  · obtain ⟨a, ns, k, rfl, _⟩ := h
    rfl
  · obtain ⟨a, ns, k, rfl, hS, h0, q⟩ := h
    refine ⟨_, (pss_cons (ps_if (pt_cmpR op_uLt (pv 1) (pe_callB (cr_ulen) (by rfl) T.b_len bt_len (pa_cons (pv 0) pa_nil)) (nomark _)) (pss_one (ps_ret (pe_ix ix_seq (pv 0) (pv 1) (fun _ _ => rfl)))) pss_nil)
      (pss_one (ps_ret pe_int))), ?_⟩
    walk_at "begin"
    walk_at "go"
    refine x_iteD (fun h => ?_) (fun h => ?_)
    · walk_at "go"
      exact q
    · walk_at "go"
      have e : cl ns k = 0 := by
        unfold cl
        rw [List.getD_eq_getElem?_getD, List.getElem?_eq_none (by omega)]
        rfl
      rw [e] at q
      exact q

theorem x_cell {H : Hp} {Q : VK} {E : XK} {a : Addr} {ns : List Int} {k : Int} (h : SqL K H a (ns.map V.int)) (q : Q (.int (cl ns k)) H) (h0 : 0 ≤ k) : spCell K [.ref a, .int k] H Q E := ⟨a, ns, k, rfl, h, h0, q⟩
local macro_rules | `(tactic| walk_at "u") => `(tactic| ((with_reducible refine' x_cell ?hq ?_ ?h0); (case hq => walk_at "sq"); (try (case h0 => walk_at "side"))))
/-! ### numbers -/
def num (c : Int) : Int := if c < 0 then 0 - (0 - c) % 10 ^ 30 else c % 10 ^ 30
def spNum : Sp := fun vs H Q _ => ∃ c : Int, vs = [.int c] ∧ Q (.int (num c)) H
theorem x_num {H : Hp} {Q : VK} {E : XK} {c : Int} (q : Q (.int (num c)) H) : spNum [.int c] H Q E := ⟨c, rfl, q⟩
local macro_rules | `(tactic| walk_at "u") => `(tactic| (with_reducible refine x_num ?_))
theorem ok_number (T : Txt K mg) : FO P w K mg base 1 T.a__law_number T.fd__law_number ["_law_cell"] spNum := by
  have sc := sc__law_number
  refine T.F__law_number.okX sc (fun vs H Q E h => ?_) (fun cdv A outer s H vs Q E hr h => ?_)
  · obtain ⟨c, rfl, _⟩ := h
    rfl
  · obtain ⟨c, rfl, q⟩ := h
    refine ⟨_, (pss_cons (ps_if (pt_cmpR op_uLt (pv 0) pe_int (nomark _)) (pss_one (ps_ret (pe_op op_sub pe_int (pe_op op_mod (pe_op op_sub pe_int (pv 0)) (pe_op op_pow pe_int pe_int))))) pss_nil)
      (pss_one (ps_ret (pe_op op_mod (pv 0) (pe_op op_pow pe_int pe_int))))), ?_⟩
    walk_at "begin"
    walk_at "go"
    refine x_iteD (fun h => ?_) (fun h => ?_)
    · walk_at "go"
      unfold num at q
      rw [if_pos h] at q
      exact q
    · walk_at "go"
      unfold num at q
      rw [if_neg h] at q
      exact q
/-! ### whole numbers -/
/-- a value that is no whole number, of a kind that is met here -/
def NotI (K : PySem.W.Frag) (H : Hp) (v : V) : Prop := v = .non ∨ (∃ b, v = .bl b) ∨ (∃ s, v = .str s) ∨ ∃ p, v = .ref p ∧ (TyX K H v (.type "list") ∨ TyX K H v (.type "tuple"))
def spWhole (K : PySem.W.Frag) : Sp := fun vs H Q _ => ∃ v, vs = [v] ∧ ((∃ n, v = .int n ∧ Q (.bl true) H) ∨ (NotI K H v ∧ Q (.bl false) H))
theorem x_whole {H : Hp} {Q : VK} {E : XK} {n : Int} (q : Q (.bl true) H) : spWhole K [.int n] H Q E := ⟨_, rfl, .inl ⟨n, rfl, q⟩⟩
theorem x_wholeN {H : Hp} {Q : VK} {E : XK} {v : V} (h : NotI K H v) (q : Q (.bl false) H) : spWhole K [v] H Q E := ⟨_, rfl, .inr ⟨h, q⟩⟩
local macro_rules | `(tactic| walk_at "u") => `(tactic| first | (with_reducible refine x_whole ?_) | (with_reducible refine x_wholeN (by assumption) ?_))
theorem ok_is_whole (T : Txt K mg) : FO P w K mg base 1 T.a_is_whole T.fd_is_whole ["thing"] (spWhole K) := by
  have sc := sc_is_whole
  refine T.F_is_whole.okX sc (fun vs H Q E h => ?_) (fun cdv A outer s H vs Q E hr h => ?_)
  · obtain ⟨v, rfl, _⟩ := h
    rfl
  · obtain ⟨v, rfl, h⟩ := h
    refine ⟨_, (pss_one (ps_ret (pe_andT (pe_callB (cr_uisinstance) (by rfl) T.b_isinstance bt_isinstance (pa_cons (pv 0) (pa_cons (pe_bltn (v := .ty "int") (by rfl) T.b_int bt_int rfl) pa_nil))) (pe_one (pe_notT (pe_callB (cr_uisinstance) (by rfl) T.b_isinstance bt_isinstance (pa_cons (pv 0) (pa_cons (pe_bltn (v := .ty "bool") (by rfl) T.b_bool bt_bool rfl) pa_nil)))))))), ?_⟩
    walk_at "begin"
    walk_at "go"
    rcases h with ⟨n, rfl, q⟩ | ⟨h, q⟩
    · walk_at "go"
      exact q
    · rcases h with rfl | ⟨b, rfl⟩ | ⟨z, rfl⟩ | ⟨p, rfl, h⟩
      · walk_at "go"
        exact q
      · walk_at "go"
        exact q
      · walk_at "go"
        exact q
      · rcases h with h | h
        · refine x_isiR h (b := false) (by decide +kernel) ?_
          walk_at "go"
          exact q
        · refine x_isiR h (b := false) (by decide +kernel) ?_
          walk_at "go"
          exact q
def spWithin (K : PySem.W.Frag) : Sp := fun vs H Q _ => ∃ v lo hi, vs = [v, .int lo, .int hi] ∧ ((∃ n, v = .int n ∧ Q (.bl (decide (lo ≤ n ∧ n ≤ hi))) H) ∨ (NotI K H v ∧ Q (.bl false) H))
theorem x_within {H : Hp} {Q : VK} {E : XK} {n lo hi : Int} (q : Q (.bl (decide (lo ≤ n ∧ n ≤ hi))) H) : spWithin K [.int n, .int lo, .int hi] H Q E := ⟨_, _, _, rfl, .inl ⟨n, rfl, q⟩⟩
theorem x_withinN {H : Hp} {Q : VK} {E : XK} {v : V} {lo hi : Int} (h : NotI K H v) (q : Q (.bl false) H) : spWithin K [v, .int lo, .int hi] H Q E := ⟨_, _, _, rfl, .inr ⟨h, q⟩⟩
local macro_rules | `(tactic| walk_at "u") => `(tactic| first | (with_reducible refine x_within ?_) | (with_reducible refine x_withinN (by assumption) ?_))
theorem ok_is_within (T : Txt K mg) : FO P w K mg base 2 T.a_is_within T.fd_is_within ["thing", "low", "high"] (spWithin K) := by
  have sc := sc_is_within
  refine T.F_is_within.okX sc (fun vs H Q E h => ?_) (fun cdv A outer s H vs Q E hr h => ?_)
  · obtain ⟨v, lo, hi, rfl, _⟩ := h
    rfl
  · obtain ⟨v, lo, hi, rfl, h⟩ := h
    refine ⟨_, (pss_one (ps_ret (pe_andT (pe_callS (ok_is_whole T) (hr.mono (by decide)) (by rfl) T.g_is_whole T.k_is_whole T.bd_is_whole (passAt (takes_of rfl rfl rfl rfl)) (pa_cons (pv 0) pa_nil)) (pe_one (pe_chain op_le op_le (pv 1) (pv 0) (pv 2)))))), ?_⟩
    walk_at "begin"
    walk_at "go"
    rcases h with ⟨n, rfl, q⟩ | ⟨h, q⟩
    · walk_at "go"
      refine x_iteD (fun h => ?_) (fun h => ?_)
      · walk_at "go"
        have e : decide (n ≤ hi) = decide (lo ≤ n ∧ n ≤ hi) := by simp [h]
        rw [e]
        exact q
      · walk_at "go"
        have e : false = decide (lo ≤ n ∧ n ≤ hi) := by simp [h]
        rw [← e] at q
        exact q
    · walk_at "go"
      exact q

/-! ### the thing -/
def Thing (K : PySem.W.Frag) (H : Hp) (k : Int) (v : V) : Prop := (k % 15 < 9 ∧ ∃ n, v = .int n) ∨ (¬ k % 15 < 9 ∧ NotI K H v)
theorem log31 {n : Int} (h : -(10 ^ 30) < n ∧ n < 10 ^ 30) : n.natAbs.log2 < 1920 := by
  have h1 : n.natAbs < 2 ^ 100 := by
    have : (2:Nat) ^ 100 = 1267650600228229401496703205376 := by decide
    omega
  by_cases h0 : n.natAbs = 0
  · rw [h0]; decide
  · exact Nat.lt_of_lt_of_le ((Nat.log2_lt h0).mpr h1) (by decide)
def spThing (K : PySem.W.Frag) : Sp := fun vs H Q _ => ∃ k lo hi n : Int, vs = [.int k, .int lo, .int hi, .int n] ∧ (-(10 ^ 30) < n ∧ n < 10 ^ 30) ∧ ∀ v H1, Same H H1 → Thing K H1 k v → Q v H1
theorem ok_thing (T : Txt K mg) : FO P w K mg base 1 T.a__law_thing T.fd__law_thing ["_law_kind", "_law_low", "_law_high", "_law_number_here"] (spThing K) := by
  have sc := sc__law_thing
  refine T.F__law_thing.okX sc (fun vs H Q E h => ?_) (fun cdv A outer s H vs Q E hr h => ?_)
  · obtain ⟨k, lo, hi, n, rfl, _⟩ := h
    rfl
  · obtain ⟨k, lo, hi, n, rfl, hn, q⟩ := h
    have hl := log31 hn
    refine ⟨_, (pss_cons (ps_set (i := 4) sc.nd rfl (Or.inl rfl) (pe_lst (pa_cons (pv 1) (pa_cons (pv 2) (pa_cons (pe_op op_sub (pv 1) pe_int) (pa_cons (pe_op op_uAdd (pv 2) pe_int) (pa_cons (pe_op op_uAdd (pv 1) pe_int) (pa_cons (pe_op op_sub (pv 2) pe_int) (pa_cons (pv 3) (pa_cons (pv 3) (pa_cons (pv 3) pa_nil)))))))))))
      (pss_cons (ps_set (i := 4) sc.nd rfl (Or.inl rfl) (pe_op op_uAdd (pv 4) (pe_lst (pa_cons pe_bl (pa_cons pe_bl (pa_cons pe_non (pa_cons (pe_callTy ct_str (by rfl) T.b_str bt_str (pa_cons (pv 3) pa_nil)) (pa_cons (pe_lst (pa_cons (pv 3) pa_nil)) (pa_cons (pe_tup (pa_cons (pv 3) pa_nil)) pa_nil)))))))))
      (pss_one (ps_ret (pe_ix ix_seq (pv 4) (pe_op op_mod (pv 0) pe_int) (fun _ _ => rfl)))))), ?_⟩
    walk_at "begin"
    walk_at "go"
    rename_i p1 H1 _ hs1 hn1 p2 H2 hp2 hs2 hn2 p3 H3 hp3 hs3 hn3 p4 H4 hp4 hs4 hn4 p5 H5 hp5 hs5 hn5
    have hS5 : Same H H5 := ((hs1.trans hs2).trans (hs3.trans hs4)).trans hs5
    have t2 : NotI K H5 (.ref p2) := .inr (.inr (.inr ⟨p2, rfl, .inl (.base (.lst (hs5 _ _ (hs4 _ _ (hs3 _ _ hn2)))))⟩))
    have t3 : NotI K H5 (.ref p3) := .inr (.inr (.inr ⟨p3, rfl, .inr (.base (.tup (hs5 _ _ (hs4 _ _ hn3))))⟩))
    rcases (by omega : k % 15 = 0 ∨ k % 15 = 1 ∨ k % 15 = 2 ∨ k % 15 = 3 ∨ k % 15 = 4 ∨ k % 15 = 5 ∨ k % 15 = 6 ∨ k % 15 = 7 ∨ k % 15 = 8 ∨ k % 15 = 9 ∨ k % 15 = 10 ∨ k % 15 = 11 ∨ k % 15 = 12 ∨ k % 15 = 13 ∨ k % 15 = 14) with e | e | e | e | e | e | e | e | e | e | e | e | e | e | e <;> rw [e]
    · exact q _ _ hS5 (.inl ⟨by omega, _, rfl⟩)
    · exact q _ _ hS5 (.inl ⟨by omega, _, rfl⟩)
    · exact q _ _ hS5 (.inl ⟨by omega, _, rfl⟩)
    · exact q _ _ hS5 (.inl ⟨by omega, _, rfl⟩)
    · exact q _ _ hS5 (.inl ⟨by omega, _, rfl⟩)
    · exact q _ _ hS5 (.inl ⟨by omega, _, rfl⟩)
    · exact q _ _ hS5 (.inl ⟨by omega, _, rfl⟩)
    · exact q _ _ hS5 (.inl ⟨by omega, _, rfl⟩)
    · exact q _ _ hS5 (.inl ⟨by omega, _, rfl⟩)
    · exact q _ _ hS5 (.inr ⟨by omega, .inr (.inl ⟨_, rfl⟩)⟩)
    · exact q _ _ hS5 (.inr ⟨by omega, .inr (.inl ⟨_, rfl⟩)⟩)
    · exact q _ _ hS5 (.inr ⟨by omega, .inl rfl⟩)
    · exact q _ _ hS5 (.inr ⟨by omega, .inr (.inr (.inl ⟨_, rfl⟩))⟩)
    · exact q _ _ hS5 (.inr ⟨by omega, t2⟩)
    · exact q _ _ hS5 (.inr ⟨by omega, t3⟩)
def spSame : Sp := fun vs H Q _ => ∃ b c : Bool, vs = [.bl b, .bl c] ∧ Q (.bl (decide (b = c))) H
theorem x_same {H : Hp} {Q : VK} {E : XK} {b c : Bool} (q : Q (.bl (decide (b = c))) H) : spSame [.bl b, .bl c] H Q E := ⟨b, c, rfl, q⟩
local macro_rules | `(tactic| walk_at "u") => `(tactic| (with_reducible refine x_same ?_))
theorem ok_same (T : Txt K mg) : FO P w K mg base 1 T.a__law_same T.fd__law_same ["_law_found", "_law_due"] spSame := by
  have sc := sc__law_same
  refine T.F__law_same.okX sc (fun vs H Q E h => ?_) (fun cdv A outer s H vs Q E hr h => ?_)
  · obtain ⟨b, c, rfl, _⟩ := h
    rfl
  · obtain ⟨b, c, rfl, q⟩ := h
    refine ⟨_, (pss_one (ps_ret (pe_andT (pe_callB (cr_uisinstance) (by rfl) T.b_isinstance bt_isinstance (pa_cons (pv 0) (pa_cons (pe_bltn (v := .ty "bool") (by rfl) T.b_bool bt_bool rfl) pa_nil))) (pe_one (pe_cmpR (op_uEq hr.units) (pv 0) (pv 1) (nomark _)))))), ?_⟩
    walk_at "begin"
    walk_at "go"
    exact q
/-! ### the law -/
theorem num_bd (c : Int) : -(10 ^ 30) < num c ∧ num c < 10 ^ 30 := by
  unfold num
  split <;> omega
def spLaw (K : PySem.W.Frag) : Sp := fun vs H Q _ => ∃ (a : Addr) (ns : List Int), vs = [.ref a] ∧ SqL K H a (ns.map V.int) ∧ ns.length ≤ 63 ∧ ∀ H', Q (.bl true) H'
theorem ok_law (T : Txt K mg) : FO P w K mg base 4 T.a_law T.fd_law ["_law_script"] (spLaw K) := by
  have sc := sc_law
  refine T.F_law.okX sc (fun vs H Q E h => ?_) (fun cdv A outer s H vs Q E hr h => ?_)
  · obtain ⟨a, ns, rfl, _⟩ := h
    rfl
  · obtain ⟨a, ns, rfl, hS, hl, q⟩ := h
    refine ⟨_, (pss_cons (ps_set (i := 1) sc.nd rfl (Or.inl rfl) (pe_callS (ok_number T) (hr.mono (by decide)) (by rfl) T.g__law_number T.k__law_number T.bd__law_number (passAt (takes_of rfl rfl rfl rfl)) (pa_cons (pe_callS (ok_cell_at T) (hr.mono (by decide)) (by rfl) T.g__law_cell_at T.k__law_cell_at T.bd__law_cell_at (passAt (takes_of rfl rfl rfl rfl)) (pa_cons (pv 0) (pa_cons pe_int pa_nil))) pa_nil)))
      (pss_cons (ps_set (i := 2) sc.nd rfl (Or.inl rfl) (pe_callS (ok_number T) (hr.mono (by decide)) (by rfl) T.g__law_number T.k__law_number T.bd__law_number (passAt (takes_of rfl rfl rfl rfl)) (pa_cons (pe_callS (ok_cell_at T) (hr.mono (by decide)) (by rfl) T.g__law_cell_at T.k__law_cell_at T.bd__law_cell_at (passAt (takes_of rfl rfl rfl rfl)) (pa_cons (pv 0) (pa_cons pe_int pa_nil))) pa_nil)))
      (pss_cons (ps_set (i := 3) sc.nd rfl (Or.inl rfl) (pe_callS (ok_cell_at T) (hr.mono (by decide)) (by rfl) T.g__law_cell_at T.k__law_cell_at T.bd__law_cell_at (passAt (takes_of rfl rfl rfl rfl)) (pa_cons (pv 0) (pa_cons pe_int pa_nil))))
      (pss_cons (ps_set (i := 4) sc.nd rfl (Or.inl rfl) (pe_callS (ok_thing T) (hr.mono (by decide)) (by rfl) T.g__law_thing T.k__law_thing T.bd__law_thing (passAt (takes_of rfl rfl rfl rfl)) (pa_cons (pv 3) (pa_cons (pv 1) (pa_cons (pv 2) (pa_cons (pe_callS (ok_number T) (hr.mono (by decide)) (by rfl) T.g__law_number T.k__law_number T.bd__law_number (passAt (takes_of rfl rfl rfl rfl)) (pa_cons (pe_callS (ok_cell_at T) (hr.mono (by decide)) (by rfl) T.g__law_cell_at T.k__law_cell_at T.bd__law_cell_at (passAt (takes_of rfl rfl rfl rfl)) (pa_cons (pv 0) (pa_cons pe_int pa_nil))) pa_nil)) pa_nil))))))
      (pss_cons (ps_set (i := 5) sc.nd rfl (Or.inl rfl) (pe_cmpR op_uLt (pe_op op_mod (pv 3) pe_int) pe_int (nomark _)))
      (pss_cons (ps_set (i := 6) sc.nd rfl (Or.inl rfl) pe_bl)
      (pss_cons (ps_if (pt_truth (pv 5) (by intro _; rfl)) (pss_one (ps_set (i := 6) sc.nd rfl (Or.inl rfl) (pe_andT (pe_notT (pe_cmpR op_uLt (pv 4) (pv 1) (nomark _))) (pe_one (pe_notT (pe_cmpR op_gt (pv 4) (pv 2) (nomark _))))))) pss_nil)
      (pss_one (ps_ret (pe_andT (pe_callS (ok_same T) (hr.mono (by decide)) (by rfl) T.g__law_same T.k__law_same T.bd__law_same (passAt (takes_of rfl rfl rfl rfl)) (pa_cons (pe_callS (ok_is_whole T) (hr.mono (by decide)) (by rfl) T.g_is_whole T.k_is_whole T.bd_is_whole (passAt (takes_of rfl rfl rfl rfl)) (pa_cons (pv 4) pa_nil)) (pa_cons (pv 5) pa_nil))) (pe_one (pe_callS (ok_same T) (hr.mono (by decide)) (by rfl) T.g__law_same T.k__law_same T.bd__law_same (passAt (takes_of rfl rfl rfl rfl)) (pa_cons (pe_callS (ok_is_within T) (hr.mono (by decide)) (by rfl) T.g_is_within T.k_is_within T.bd_is_within (passAt (takes_of rfl rfl rfl rfl)) (pa_cons (pv 4) (pa_cons (pv 1) (pa_cons (pv 2) pa_nil)))) (pa_cons (pv 6) pa_nil)))))))))))))), ?_⟩
    walk_at "begin"
    walk_at "go"
    refine ⟨_, _, _, _, rfl, num_bd _, fun v H1 hs ht => ?_⟩
    rcases ht with ⟨hk, n, rfl⟩ | ⟨hk, hv⟩
    · walk_at "go"
      rw [decide_eq_true hk]
      walk_at "go"
      refine x_iteD (fun h => ?_) (fun h => ?_)
      · walk_at "go"
        refine x_iteD (fun _ => ?_) (fun h => absurd rfl h)
        walk_at "go"
        have e : decide (decide (num (cl ns 0) ≤ n ∧ n ≤ num (cl ns 1)) = !decide (n < num (cl ns 0))) = true := by
          rw [decide_eq_true_iff, decide_eq_false (by omega), decide_eq_true h]
          rfl
        show Q (.bl (decide (decide (num (cl ns 0) ≤ n ∧ n ≤ num (cl ns 1)) = !decide (n < num (cl ns 0))))) H1
        rw [e]
        exact q H1
      · walk_at "go"
        refine x_iteD (fun _ => ?_) (fun h => absurd rfl h)
        walk_at "go"
        have e : decide (decide (num (cl ns 0) ≤ n ∧ n ≤ num (cl ns 1)) = !decide (num (cl ns 1) < n)) = true := by
          rw [decide_eq_true_iff]
          by_cases h2 : num (cl ns 1) < n
          · rw [decide_eq_false (by omega), decide_eq_true h2]
            rfl
          · rw [decide_eq_true (by omega), decide_eq_false h2]
            rfl
        show Q (.bl (decide (decide (num (cl ns 0) ≤ n ∧ n ≤ num (cl ns 1)) = !decide (num (cl ns 1) < n)))) H1
        rw [e]
        exact q H1
    · walk_at "go"
      rw [decide_eq_false hk]
      walk_at "go"
      refine x_iteD (fun _ => ?_) (fun h => absurd rfl h)
      walk_at "go"
      exact q H1
end

theorem all_mk {l : PySem.W.OpenLaw} {w : World} {K : PySem.W.Frag} {h : Heap} {mg : Str → Option Value} {fa : Addr} (X : K.In h) (G : h.Ns mainGlobals mg) (hfa : mg "law" = some (.ref fa))
    {f_is_whole : Addr} {od_is_whole an_is_whole : Option Addr} {sl_is_whole : Array (Option Value)} {oc_is_whole kV_is_whole dc_is_whole pm_is_whole cd_is_whole ct_is_whole : Value}
    {f_is_within : Addr} {od_is_within an_is_within : Option Addr} {sl_is_within : Array (Option Value)} {oc_is_within kV_is_within dc_is_within pm_is_within cd_is_within ct_is_within : Value}
    {f__law_cell_at : Addr} {od__law_cell_at an__law_cell_at : Option Addr} {sl__law_cell_at : Array (Option Value)} {oc__law_cell_at kV__law_cell_at dc__law_cell_at pm__law_cell_at cd__law_cell_at ct__law_cell_at : Value}
    {f__law_number : Addr} {od__law_number an__law_number : Option Addr} {sl__law_number : Array (Option Value)} {oc__law_number kV__law_number dc__law_number pm__law_number cd__law_number ct__law_number : Value}
    {f__law_thing : Addr} {od__law_thing an__law_thing : Option Addr} {sl__law_thing : Array (Option Value)} {oc__law_thing kV__law_thing dc__law_thing pm__law_thing cd__law_thing ct__law_thing : Value}
    {f__law_same : Addr} {od__law_same an__law_same : Option Addr} {sl__law_same : Array (Option Value)} {oc__law_same kV__law_same dc__law_same pm__law_same cd__law_same ct__law_same : Value}
    {f_law : Addr} {od_law an_law : Option Addr} {sl_law : Array (Option Value)} {oc_law kV_law dc_law pm_law cd_law ct_law : Value}
    (a_is_whole : PySem.W.nsIn K mainGlobals "is_whole" = some (some (.ref f_is_whole)))
    (l_is_whole : K.lookup f_is_whole = some ⟨oc_is_whole, od_is_whole, .func (PySem.W.fnOf "is_whole" "is_whole" (defArgs s_is_whole) (defBody s_is_whole) (defScope s_is_whole) .none kV_is_whole dc_is_whole pm_is_whole an_is_whole cd_is_whole ct_is_whole), sl_is_whole⟩)
    (c_is_whole : PySem.W.codeIn K cd_is_whole "is_whole" = true)
    (k_is_whole : PySem.W.keepIn K (.ref f_is_whole) = true)
    (a_is_within : PySem.W.nsIn K mainGlobals "is_within" = some (some (.ref f_is_within)))
    (l_is_within : K.lookup f_is_within = some ⟨oc_is_within, od_is_within, .func (PySem.W.fnOf "is_within" "is_within" (defArgs s_is_within) (defBody s_is_within) (defScope s_is_within) .none kV_is_within dc_is_within pm_is_within an_is_within cd_is_within ct_is_within), sl_is_within⟩)
    (c_is_within : PySem.W.codeIn K cd_is_within "is_within" = true)
    (k_is_within : PySem.W.keepIn K (.ref f_is_within) = true)
    (a__law_cell_at : PySem.W.nsIn K mainGlobals "_law_cell_at" = some (some (.ref f__law_cell_at)))
    (l__law_cell_at : K.lookup f__law_cell_at = some ⟨oc__law_cell_at, od__law_cell_at, .func (PySem.W.fnOf "_law_cell_at" "_law_cell_at" (defArgs s__law_cell_at) (defBody s__law_cell_at) (defScope s__law_cell_at) .none kV__law_cell_at dc__law_cell_at pm__law_cell_at an__law_cell_at cd__law_cell_at ct__law_cell_at), sl__law_cell_at⟩)
    (c__law_cell_at : PySem.W.codeIn K cd__law_cell_at "_law_cell_at" = true)
    (k__law_cell_at : PySem.W.keepIn K (.ref f__law_cell_at) = true)
    (a__law_number : PySem.W.nsIn K mainGlobals "_law_number" = some (some (.ref f__law_number)))
    (l__law_number : K.lookup f__law_number = some ⟨oc__law_number, od__law_number, .func (PySem.W.fnOf "_law_number" "_law_number" (defArgs s__law_number) (defBody s__law_number) (defScope s__law_number) .none kV__law_number dc__law_number pm__law_number an__law_number cd__law_number ct__law_number), sl__law_number⟩)
    (c__law_number : PySem.W.codeIn K cd__law_number "_law_number" = true)
    (k__law_number : PySem.W.keepIn K (.ref f__law_number) = true)
    (a__law_thing : PySem.W.nsIn K mainGlobals "_law_thing" = some (some (.ref f__law_thing)))
    (l__law_thing : K.lookup f__law_thing = some ⟨oc__law_thing, od__law_thing, .func (PySem.W.fnOf "_law_thing" "_law_thing" (defArgs s__law_thing) (defBody s__law_thing) (defScope s__law_thing) .none kV__law_thing dc__law_thing pm__law_thing an__law_thing cd__law_thing ct__law_thing), sl__law_thing⟩)
    (c__law_thing : PySem.W.codeIn K cd__law_thing "_law_thing" = true)
    (k__law_thing : PySem.W.keepIn K (.ref f__law_thing) = true)
    (a__law_same : PySem.W.nsIn K mainGlobals "_law_same" = some (some (.ref f__law_same)))
    (l__law_same : K.lookup f__law_same = some ⟨oc__law_same, od__law_same, .func (PySem.W.fnOf "_law_same" "_law_same" (defArgs s__law_same) (defBody s__law_same) (defScope s__law_same) .none kV__law_same dc__law_same pm__law_same an__law_same cd__law_same ct__law_same), sl__law_same⟩)
    (c__law_same : PySem.W.codeIn K cd__law_same "_law_same" = true)
    (k__law_same : PySem.W.keepIn K (.ref f__law_same) = true)
    (a_law : PySem.W.nsIn K mainGlobals "law" = some (some (.ref f_law)))
    (l_law : K.lookup f_law = some ⟨oc_law, od_law, .func (PySem.W.fnOf "law" "law" (defArgs s_law) (defBody s_law) (defScope s_law) .none kV_law dc_law pm_law an_law cd_law ct_law), sl_law⟩)
    (c_law : PySem.W.codeIn K cd_law "law" = true)
    (k_law : PySem.W.keepIn K (.ref f_law) = true)
    (z_len : PySem.W.nsIn K mainGlobals "len" = some none)
    (z_isinstance : PySem.W.nsIn K mainGlobals "isinstance" = some none)
    (z_int : PySem.W.nsIn K mainGlobals "int" = some none)
    (z_str : PySem.W.nsIn K mainGlobals "str" = some none)
    (z_bool : PySem.W.nsIn K mainGlobals "bool" = some none) :
    ∃ fd : FuncData, (∀ (s : Shared) (v : Value), BindsTo s fd ⟨[v], []⟩ [("_law_script", v)]) ∧ ∀ base : Heap, K.In base → base.Ns mainGlobals mg → FnOk l.prog w K mg base (L2.CX l.prog w) 4 fa fd ["_law_script"] (spLaw K) := by
  have e := hfa.symm.trans (PySem.W.mg_of X G a_law)
  cases e
  have F_is_whole := fun_mk (st := s_is_whole) l_is_whole c_is_whole k_is_whole
  have b_is_whole := F_is_whole.binds (ps := ["thing"]) fun _ _ _ _ _ _ us hl => match us, hl with | [_], _ => rfl
  have F_is_within := fun_mk (st := s_is_within) l_is_within c_is_within k_is_within
  have b_is_within := F_is_within.binds (ps := ["thing", "low", "high"]) fun _ _ _ _ _ _ us hl => match us, hl with | [_, _, _], _ => rfl
  have F__law_cell_at := fun_mk (st := s__law_cell_at) l__law_cell_at c__law_cell_at k__law_cell_at
  have b__law_cell_at := F__law_cell_at.binds (ps := ["_law_script", "_law_k"]) fun _ _ _ _ _ _ us hl => match us, hl with | [_, _], _ => rfl
  have F__law_number := fun_mk (st := s__law_number) l__law_number c__law_number k__law_number
  have b__law_number := F__law_number.binds (ps := ["_law_cell"]) fun _ _ _ _ _ _ us hl => match us, hl with | [_], _ => rfl
  have F__law_thing := fun_mk (st := s__law_thing) l__law_thing c__law_thing k__law_thing
  have b__law_thing := F__law_thing.binds (ps := ["_law_kind", "_law_low", "_law_high", "_law_number_here"]) fun _ _ _ _ _ _ us hl => match us, hl with | [_, _, _, _], _ => rfl
  have F__law_same := fun_mk (st := s__law_same) l__law_same c__law_same k__law_same
  have b__law_same := F__law_same.binds (ps := ["_law_found", "_law_due"]) fun _ _ _ _ _ _ us hl => match us, hl with | [_, _], _ => rfl
  have F_law := fun_mk (st := s_law) l_law c_law k_law
  have b_law := F_law.binds (ps := ["_law_script"]) fun _ _ _ _ _ _ us hl => match us, hl with | [_], _ => rfl
  let T : Txt K mg := {
    a_is_whole := f_is_whole
    fd_is_whole := _
    F_is_whole := F_is_whole
    bd_is_whole := b_is_whole
    k_is_whole := k_is_whole
    g_is_whole := PySem.W.mg_of X G a_is_whole
    a_is_within := f_is_within
    fd_is_within := _
    F_is_within := F_is_within
    bd_is_within := b_is_within
    k_is_within := k_is_within
    g_is_within := PySem.W.mg_of X G a_is_within
    a__law_cell_at := f__law_cell_at
    fd__law_cell_at := _
    F__law_cell_at := F__law_cell_at
    bd__law_cell_at := b__law_cell_at
    k__law_cell_at := k__law_cell_at
    g__law_cell_at := PySem.W.mg_of X G a__law_cell_at
    a__law_number := f__law_number
    fd__law_number := _
    F__law_number := F__law_number
    bd__law_number := b__law_number
    k__law_number := k__law_number
    g__law_number := PySem.W.mg_of X G a__law_number
    a__law_thing := f__law_thing
    fd__law_thing := _
    F__law_thing := F__law_thing
    bd__law_thing := b__law_thing
    k__law_thing := k__law_thing
    g__law_thing := PySem.W.mg_of X G a__law_thing
    a__law_same := f__law_same
    fd__law_same := _
    F__law_same := F__law_same
    bd__law_same := b__law_same
    k__law_same := k__law_same
    g__law_same := PySem.W.mg_of X G a__law_same
    a_law := fa
    fd_law := _
    F_law := F_law
    bd_law := b_law
    k_law := k_law
    b_len := PySem.W.mg_none_of X G z_len
    b_isinstance := PySem.W.mg_none_of X G z_isinstance
    b_int := PySem.W.mg_none_of X G z_int
    b_str := PySem.W.mg_none_of X G z_str
    b_bool := PySem.W.mg_none_of X G z_bool }
  exact ⟨T.fd_law, fun s v => .of_eq rfl, fun base _ _ => ok_law T⟩
theorem walk {l : PySem.W.OpenLaw} {q : Program} {loose : List Str} {XP : (Str → Option Value) → Heap → Prop} {YP : World → Heap → Prop} {d : DefRec} {K : Params → PySem.W.Frag} (hn : l.most = some 63) (hdf : d.params.defaults = [])
    (hY : ∀ (w : World) (h : Heap), YP w h → (K w.params).In h)
    (F : ∀ (w : World) (mg : Str → Option Value) (fa : Addr) (h : Heap), (K w.params).In h → h.Ns mainGlobals mg → mg d.name = some (.ref fa) →
      ∃ fd : FuncData, (∀ (s : Shared) (u : Value), BindsTo s fd ⟨[u], []⟩ [("_law_script", u)]) ∧ ∀ base : Heap, (K w.params).In base → base.Ns mainGlobals mg → FnOk l.prog w (K w.params) mg base (L2.CX l.prog w) 4 fa fd ["_law_script"] (spLaw (K w.params))) :
    PySem.W.WalkO q loose XP YP l.row.toRowW d [] (fun f vs => PySem.call f vs) :=
  L2.walk_of (n := 63) (k := 4) (x := "_law_script") (CX := fun w => L2.CX l.prog w) (sp := fun w => spLaw (K w.params)) hn (by decide) hdf ⟨rfl, by decide, by decide⟩ hY F (fun _ _ a ns hl _ hS => ⟨a, ns, rfl, hS, hl, fun _ => rfl⟩) (fun _ _ _ _ _ z => by
    obtain ⟨_, _, _, _, _, _, _, _, _, _, _, _, z⟩ := z
    exact z.elim)
end My
open PySem PySem.W PyProof.Rows
set_option maxRecDepth 100000 in
set_option maxHeartbeats 0 in
theorem PySem.Challenge.cw_wornpages_k01_whole_numbers_holds : PySem.Challenge.rw_wornpages_k01_whole_numbers.Holds := by
  w_on; o_law; k_head; (case hw => w_witness2)
  k_fill
  refine My.walk (l := PySem.Challenge.rw_wornpages_k01_whole_numbers) rfl rfl (fun w h Y => PySem.W.kIn_of Y) ?F
  case F =>
    intro w mg fa h KX G hmg
    refine' My.all_mk KX G hmg ?a_is_whole ?l_is_whole ?c_is_whole ?k_is_whole ?a_is_within ?l_is_within ?c_is_within ?k_is_within ?a__law_cell_at ?l__law_cell_at ?c__law_cell_at ?k__law_cell_at ?a__law_number ?l__law_number ?c__law_number ?k__law_number ?a__law_thing ?l__law_thing ?c__law_thing ?k__law_thing ?a__law_same ?l__law_same ?c__law_same ?k__law_same ?a_law ?l_law ?c_law ?k_law ?z_len ?z_isinstance ?z_int ?z_str ?z_bool
    (case a_is_whole => k_is)
    (case l_is_whole => k_is)
    (case c_is_whole => k_is)
    (case k_is_whole => k_is)
    (case a_is_within => k_is)
    (case l_is_within => k_is)
    (case c_is_within => k_is)
    (case k_is_within => k_is)
    (case a__law_cell_at => k_is)
    (case l__law_cell_at => k_is)
    (case c__law_cell_at => k_is)
    (case k__law_cell_at => k_is)
    (case a__law_number => k_is)
    (case l__law_number => k_is)
    (case c__law_number => k_is)
    (case k__law_number => k_is)
    (case a__law_thing => k_is)
    (case l__law_thing => k_is)
    (case c__law_thing => k_is)
    (case k__law_thing => k_is)
    (case a__law_same => k_is)
    (case l__law_same => k_is)
    (case c__law_same => k_is)
    (case k__law_same => k_is)
    (case a_law => k_is)
    (case l_law => k_is)
    (case c_law => k_is)
    (case k_law => k_is)
    (case z_len => k_is)
    (case z_isinstance => k_is)
    (case z_int => k_is)
    (case z_str => k_is)
    (case z_bool => k_is)
#print axioms PySem.Challenge.cw_wornpages_k01_whole_numbers_holds
