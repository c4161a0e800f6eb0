import PyProof.Rows.All
import Wide.All
import OpenK.AllK
import Wide.FinOn
import HandS.ForMost
import HandS.Wide
import HandS.IsInst
import HandS.StrMore
import HandS.Flow
import HandS.Style
import HandS.RaiseMore
import HandS.More
import HandS.Evl
import HandS.Defaults
import HandS.Walk
import HandS.MakeKwOnly
import HandS.ForExc
import HandS.ExcInit
import KE.KExcSuper
import HandS.TryMany
import HandS.ExcField
import HandS.ClsMeth
import HandS.Property
import HandS.CallSlots
import KE.RegKSuper
import PySem.Challenge.RW_surehollows_k02_bounds_and_their_signs
set_option Elab.async false
set_option linter.all false
set_option maxRecDepth 100000
set_option maxHeartbeats 4000000
/-! steps over the readings of the hand layer -/
namespace Vc
open PySem L2
section
variable {X : Cx}
/-! ### own rules by values -/
theorem call_repr_bl : CallR X (.builtin "repr") (fun xs H Q => ∃ b, xs = [.bl b] ∧ Q (.str (if b then "True" else "False")) H) := by
  intro pins s σ H xs us Q I r h
  obtain ⟨b, rfl, q⟩ := h
  obtain ⟨u, rfl, r1⟩ := vals1 r
  cases (show u = Value.bool b from r1)
  exact PySem.P.repr_of_bool ⟨.str _, H, I.tok _, ⟨_, rfl⟩, q⟩
def rMulS : R2 := fun x y H Q => ∃ z n, x = .str z ∧ y = .int n ∧ -1000 ≤ n ∧ n ≤ 10000 ∧ z.length ≤ 1000 ∧ Q (.str (Txt.mul z n)) H
theorem op_mul_str : OpR X (binaryOp .Mult) rMulS := by
  intro pins s σ H x y a b Q I rx ry h
  obtain ⟨z, n, rfl, rfl, h1, h2, h3, q⟩ := h
  obtain ⟨t, rfl⟩ := (show ∃ t, a = Value.str z t from rx)
  obtain ⟨u, rfl⟩ := (show ∃ u, b = Value.int n u from ry)
  refine SB.mul ⟨?_, fun h4 _ => ?_, fun h4 _ => ?_⟩ fun t' k => ⟨.str _, H, I.tok _, ⟨_, rfl⟩, q⟩
  · simp only [Bool.or_eq_false_iff, decide_eq_false_iff_not]
    omega
  · have h5 : (100000 : Int) ≤ (2 ^ 63 - 1) / n := by
      apply Int.le_ediv_of_mul_le (by omega)
      omega
    omega
  · have h6 : z.length * n.toNat ≤ 1000 * 10000 := Nat.mul_le_mul h3 (by omega)
    unfold Builtin.Str.tooLong
    have e : sizeLine = 16777216 := by decide
    rw [e]
    simp only [gt_iff_lt, decide_eq_false_iff_not]
    omega
/-- + of ints, of texts, of lists -/
def rAddU : R2 := fun x y H Q => rI0 (fun i j => .int (i + j)) x y H Q ∨ (∃ i j, x = .str i ∧ y = .str j ∧ i.length + j.length ≤ sizeLine ∧ Q (.str (i ++ j)) H) ∨ rCat x y H Q
theorem op_addU : OpR X (binaryOp .Add) rAddU := OpR.or op_add (OpR.or op_add_str op_cat)
/-- * of ints, of texts, of lists by an int -/
def rMulU : R2 := fun x y H Q => rI CMul (fun i j => .int (i * j)) x y H Q ∨ rMulS x y H Q ∨ rRep x y H Q
theorem op_mulU : OpR X (binaryOp .Mult) rMulU := OpR.or op_mul (OpR.or op_mul_str op_rep)
end
/-- == of scalars, of data at any depth -/
def rEqU (K : PySem.W.Frag) : R2 := fun x y H Q => rEq x y H Q ∨ rEqD K x y H Q
def rNeU (K : PySem.W.Frag) : R2 := fun x y H Q => rNe x y H Q ∨ rNeD K x y H Q
section
variable {X : Cx} {k : Nat}
theorem op_eqU (K : PySem.W.Frag) (hr : Room k X.A) (hK : X.K = K := by rfl) : OpR X (compareOp .Eq) (rEqU K) := hK ▸ OpR.or op_eq (op_eqD hr.units)
theorem op_neU (K : PySem.W.Frag) (hr : Room k X.A) (hK : X.K = K := by rfl) : OpR X (compareOp .NotEq) (rNeU K) := hK ▸ OpR.or op_ne (op_neD hr.units)
def rSlU (K : PySem.W.Frag) : V → Option Int → Option Int → Hp → VK → Prop := fun x lo hi H Q => rSlS x lo hi H Q ∨ rSlL K x lo hi H Q
theorem sl_U (K : PySem.W.Frag) (hK : X.K = K := by rfl) : SlR X (rSlU K) := hK ▸ SlR.or sl_str sl_list
end
section
variable {X : Cx}
def rLenU (K : PySem.W.Frag) : List V → Hp → VK → Prop := fun xs H Q => (∃ p ys, xs = [.ref p] ∧ (SqL K H p ys ∨ SqT K H p ys) ∧ Q (.int ys.length) H) ∨ (∃ z, xs = [.str z] ∧ z.length ≤ sizeLine ∧ Q (.int z.length) H) ∨ (∃ a kvs, xs = [V.ref a] ∧ H a = some (.dK kvs) ∧ Q (.int kvs.length) H)
theorem ix_U (K : PySem.W.Frag) (hK : X.K = K := by rfl) : IxR X (rIx K) := hK ▸ ix_seq
theorem pi_listK (K : PySem.W.Frag) {tg l : Expr} {tl : TE} (h : PE X l tl) (hK : X.K = K := by rfl) : PI X tg l (iList K tl) := hK ▸ pi_list h
theorem pg_K (K : PySem.W.Frag) {e : Expr} {n : Nat} {t : TGs} (h : PG X e (gTup X.K n t)) (hK : X.K = K := by rfl) : PG X e (gTup K n t) := hK ▸ h
theorem pe_bm0K (K : PySem.W.Frag) {T : String} {id : String} {name : Str} {o : Expr} {apos cpos : Pos} {r : V → List V → Hp → VK → Prop} {to : TE} (h : PE X (.Call (.Attribute o name apos) [] [] cpos) (tBM0 X.K T r to)) (hK : X.K = K := by rfl) : PE X (.Call (.Attribute o name apos) [] [] cpos) (tBM0 K T r to) := hK ▸ h
theorem pe_bmK (K : PySem.W.Frag) {T : String} {name : Str} {o : Expr} {es : List Expr} {apos cpos : Pos} {r : V → List V → Hp → VK → Prop} {to : TE} {t : TA} (h : PE X (.Call (.Attribute o name apos) es [] cpos) (tBM X.K T r to t)) (hK : X.K = K := by rfl) : PE X (.Call (.Attribute o name apos) es [] cpos) (tBM K T r to t) := hK ▸ h
def rJoin (K : PySem.W.Frag) : V → List V → Hp → VK → Prop := fun x xs H Q => ∃ a p, ∃ ys : List Str, x = .str a ∧ xs = [.ref p] ∧ (SqL K H p (ys.map V.str) ∨ SqT K H p (ys.map V.str)) ∧ (ys.map (·.length)).sum + ys.length * a.length ≤ 16777216 ∧ Q (.str (Txt.join a ys)) H
theorem mt_joinK (K : PySem.W.Frag) (hK : X.K = K := by rfl) : MtR X "str.join" (rJoin K) := hK ▸ mt_join
theorem call_lenU (K : PySem.W.Frag) (hK : X.K = K := by rfl) : CallR X (.builtin "len") (rLenU K) := hK ▸ CallR.or call_len_seq (CallR.or call_len_str call_lenD)
def rMaxU (K : PySem.W.Frag) : List V → Hp → VK → Prop := fun xs H Q => (∃ i j, xs = [.int i, .int j] ∧ Q (.int (if j > i then j else i)) H) ∨ rMax K xs H Q
theorem call_maxU (K : PySem.W.Frag) (hc : X.calm = true) (hK : X.K = K := by rfl) : CallR X (.builtin "max") (rMaxU K) := hK ▸ CallR.or (call_max2 hc) (cr_max hc)
def rMinU (K : PySem.W.Frag) : List V → Hp → VK → Prop := fun xs H Q => (∃ i j, xs = [.int i, .int j] ∧ Q (.int (if j < i then j else i)) H) ∨ rMin K xs H Q
theorem call_minU (K : PySem.W.Frag) (hc : X.calm = true) (hK : X.K = K := by rfl) : CallR X (.builtin "min") (rMinU K) := hK ▸ CallR.or (call_min2 hc) (cr_min hc)
def rReprU : List V → Hp → VK → Prop := fun xs H Q => (∃ b, xs = [.bl b] ∧ Q (.str (if b then "True" else "False")) H) ∨ (∃ i, xs = [.int i] ∧ i.natAbs.log2 < 1920 ∧ Q (.str (toString i)) H)
theorem call_reprU : CallR X (.builtin "repr") rReprU := CallR.or call_repr_bl SkE.call_repr_int
def rIsiU (K : PySem.W.Frag) : List V → Hp → VK → Prop := fun xs H Q => rIsi K xs H Q ∨ rIsiT K xs H Q
theorem call_isiU (K : PySem.W.Frag) (hK : X.K = K := by rfl) : CallR X (.builtin "isinstance") (rIsiU K) := hK ▸ CallR.or call_isi call_isiT
def rIntU : List V → Hp → VK → Prop := fun xs H Q => ((∃ i, xs = [.int i] ∧ Q (.int i) H) ∨ ∃ k, xs = [.bl k] ∧ Q (.int (if k then 1 else 0)) H) ∨ (∃ a n, xs = [.str a] ∧ PySem.intText? a = some n ∧ a.length ≤ 640 ∧ Q (.int n) H)
theorem call_intU : CallR X (.type "int") rIntU := CallR.or call_int1 call_int_str
def rStrU : List V → Hp → VK → Prop := fun xs H Q => (∃ i, xs = [.int i] ∧ i.natAbs.log2 < 1920 ∧ Q (.str (toString i)) H) ∨ (∃ a, xs = [.str a] ∧ Q (.str a) H)
theorem call_strU : CallR X (.type "str") rStrU := CallR.or call_str_int SkE.call_str_str
def rLtU : R2 := fun x y H Q => rI0 (fun i j => .bl (decide (i < j))) x y H Q ∨ (∃ i j, x = .str i ∧ y = .str j ∧ Q (.bl (decide (i.cps.toList < j.cps.toList))) H)
theorem op_ltU : OpR X (compareOp .Lt) rLtU := OpR.or op_lt op_lt_str
def rLeU : R2 := rI0 (fun i j => .bl (decide (i ≤ j)))
theorem op_leU : OpR X (compareOp .LtE) rLeU := op_le
def rGtU : R2 := rI0 (fun i j => .bl (decide (j < i)))
theorem op_gtU : OpR X (compareOp .Gt) rGtU := op_gt
def rGeU : R2 := rI0 (fun i j => .bl (decide (j ≤ i)))
theorem op_geU : OpR X (compareOp .GtE) rGeU := op_ge
def rInS1 : R2 := fun x y H Q => ∃ c z, x = .str ⟨#[c]⟩ ∧ y = .str z ∧ Q (.bl (decide (c ∈ z.cps.toList))) H
def rNotInS1 : R2 := fun x y H Q => ∃ c z, x = .str ⟨#[c]⟩ ∧ y = .str z ∧ Q (.bl (!decide (c ∈ z.cps.toList))) H
theorem op_inS1 : OpR X (compareOp .In) rInS1 := op_in_sign
theorem op_notInS1 : OpR X (compareOp .NotIn) rNotInS1 := op_notIn_sign
def rInU (K : PySem.W.Frag) : R2 := fun x y H Q => rInS1 x y H Q ∨ rIn K false x y H Q
def rNotInU (K : PySem.W.Frag) : R2 := fun x y H Q => rNotInS1 x y H Q ∨ rIn K true x y H Q
theorem op_inU (K : PySem.W.Frag) (hK : X.K = K := by rfl) : OpR X (compareOp .In) (rInU K) := hK ▸ OpR.or op_inS1 op_in_seq
theorem op_notInU (K : PySem.W.Frag) (hK : X.K = K := by rfl) : OpR X (compareOp .NotIn) (rNotInU K) := hK ▸ OpR.or op_notInS1 op_notIn_seq
end
/-! ### a def of the text, as others call it -/
section
variable {P : Program} {w : World} {K : PySem.W.Frag} {mg : Str → Option Value} {base : Heap}
def FnG (P : Program) (w : World) (K : PySem.W.Frag) (mg : Str → Option Value) (base : Heap) (CX : CXT) (k : Nat) (x : Str) (ps : List Str) (sp : Sp) : Prop :=
  ∃ (f : Addr) (fd : FuncData), FnOk P w K mg base CX k f fd ps sp ∧ mg x = some (.ref f) ∧ PySem.W.keepIn K (.ref f) = true ∧ Binds K fd ps []
variable {X : Cx} {CX : CXT} {j k : Nat} {ps : List Str} {sp : Sp} {E : XK} {x : Str} {p pos : Pos} {e : Expr} {es : List Expr} {t : TA}
theorem pe_callG (F : FnG X.prog X.w X.K X.mg X.base CX k x ps sp) (hr : Room j X.A) (hk : k ≤ j) (hg : Gl X x) (hx : Passes CX X E)
    (ha : PA X (e :: es) t) (hdb : (x == ("__debug__" : Str)) = false := by decide) (he : starEach (e :: es) X.env = (false, eval e X.env) :: starEach es X.env := by rfl) (hpl : (backTo pos (starEach es X.env)).any (·.1) = false := by rfl) :
    PE X (.Call (.Name x p) (e :: es) [] pos) (tCall sp [] E t) := by
  obtain ⟨f, fd, F1, m, kp, b⟩ := F
  exact pe_call F1 (hr.mono hk) hg m kp b .nil hx ha hdb he hpl
theorem pe_callG0 (F : FnG X.prog X.w X.K X.mg X.base CX k x ps sp) (hr : Room j X.A) (hk : k ≤ j) (hg : Gl X x) (hx : Passes CX X E)
    (hdb : (x == ("__debug__" : Str)) = false := by decide) : PE X (.Call (.Name x p) [] [] pos) (tCall sp [] E tNil) := by
  obtain ⟨f, fd, F1, m, kp, b⟩ := F
  exact pe_call0 F1 (hr.mono hk) hg m kp b .nil hx hdb
/-- f(k = v, ..) -/
def FnGK (P : Program) (w : World) (K : PySem.W.Frag) (mg : Str → Option Value) (base : Heap) (CX : CXT) (k : Nat) (x : Str) (ps : List Str) (n : Nat) (ks : List Str) (g : List Value → List Value → List Value) (gV : List V → List V → List V) (sp : Sp) : Prop :=
  ∃ (f : Addr) (fd : FuncData), FnOk P w K mg base CX k f fd ps sp ∧ mg x = some (.ref f) ∧ PySem.W.keepIn K (.ref f) = true ∧ KBn K fd ps n ks g gV
def tCallKn (n m : Nat) (sp : Sp) (gV : List V → List V → List V) (E : XK) (t tk : TA) : TE := fun σ H Q => t σ H fun vs H1 => tk σ H1 fun zs H2 => vs.length = n ∧ zs.length = m ∧ sp (gV vs zs) H2 Q E
variable {ks : List Str} {g : List Value → List Value → List Value} {gV : List V → List V → List V} {kws : List Keyword} {tk : TA}
theorem pe_callGK0 (F : FnGK X.prog X.w X.K X.mg X.base CX k x ps 0 ks g gV sp) (hr : Room j X.A) (hk : k ≤ j) (hg : Gl X x) (hx : Passes CX X E) (hkw : PK X kws tk)
    (hall : (backToKw pos (keywordEach kws X.env)).all (·.1.isSome) = true := by rfl) (hks : (backToKw pos (keywordEach kws X.env)).filterMap (·.1) = ks := by rfl) (hdb : (x == ("__debug__" : Str)) = false := by decide)
    (hpl : ((backTo pos (starEach [] X.env)).any (·.1) || (backToKw pos (keywordEach kws X.env)).any (·.1.isNone)) = false := by rfl) :
    PE X (.Call (.Name x p) [] kws pos) (tCallKn 0 ks.length sp gV E tNil tk) := by
  obtain ⟨f, fd, F1, m, kp, b⟩ := F
  refine ⟨fun pins s σ H Q I h => ?_⟩
  refine wpAny_Call_Name_kw (ld_glob I hg m ?_ hdb)
  refine PySem.W.callWith_KW0 (h₀ := X.base) I.ok.mod.kin kp hall ?_ hpl
  refine thn (hkw.run pos pins s σ H _ I h) fun ws s2 ⟨zs, H2, I2, rz, l1, l2, q2⟩ => ⟨I2.kIn, ?_⟩
  rw [hks]
  have r2 := b.rel (vs := []) (us := []) .nil rz
  have e2 : ws.length = ks.length := by rw [← rz.length]; exact l2
  refine wpAny_call (codeAny_mono (F1.run X.A X.stack s2 H2 ⟨[], ks.zip ws⟩ (g [] ws) (gV [] zs) Q E (hr.mono hk) I2.env0 (b.to s2 [] ws I2.kIn rfl e2) r2 q2) fun r s' hq => ?_)
  cases r with
  | error e => exact hx pins σ H2 s2 e s' I2 hq
  | ok fl =>
    cases fl with
    | ret u => exact I2.after hq
    | next => exact False.elim hq
    | brk => exact False.elim hq
    | cont => exact False.elim hq
end
theorem szE : sizeLine = 16777216 := by decide
/-! ### steps -/
section
variable {K : PySem.W.Frag} {σ σ' : St} {H H' : Hp} {ta tb te tx : TE} {t u : TT} {x y z v : V} {D : Ends} {s1 s2 : TS} {Q : VK} {QB : Bool → Hp → Prop} {r r' : R2}
theorem v_start {t : TS} (e : σ = σ') (h : t D σ' H) : t D σ H := by rw [e]; exact h
theorem v_seq (h : s1 { D with nx := s2 D } σ H) : tSeq s1 s2 D σ H := h
theorem v_ret (h : te σ H D.rt) : tRet te D σ H := h
theorem v_retN (h : D.rt .non H) : tRetN D σ H := h
theorem v_drop (h : te σ H fun _ H1 => D.nx σ H1) : tDrop te D σ H := h
theorem v_next (h : D.nx σ H) : tNext D σ H := h
theorem v_asg {g : TG} (h : te σ H fun x H1 => g x σ H1 D.nx) : tAsg te g D σ H := h
theorem v_name {i : Nat} {Qs : St → Hp → Prop} (e : σ.set i (some v) = σ') (h : Qs σ' H) : gName i v σ H Qs := by
  subst e
  exact h
theorem v_ifS {tt : TT} (h : tt σ H fun b H1 => if b = true then s1 D σ H1 else s2 D σ H1) : tIfS tt s1 s2 D σ H := h
theorem v_var {i : Nat} (e : σ[i]? = some (some v)) (h : Q v H) : tVar i σ H Q := ⟨v, e, h⟩
theorem v_c (h : Q v H) : tC v σ H Q := h
theorem v_op (h : ta σ H fun x H1 => tb σ H1 fun y H2 => r x y H2 Q) : tOp r ta tb σ H Q := h
theorem v_un {r : V → Hp → VK → Prop} (h : ta σ H fun x H1 => r x H1 Q) : tUn r ta σ H Q := h
theorem v_chain (h : ta σ H fun x H1 => tb σ H1 fun y H2 => r x y H2 fun z H3 => ∃ k, z = .bl k ∧ (if k = true then tx σ H3 fun w' H4 => r' y w' H4 Q else Q (.bl false) H3)) : tChain r r' ta tb tx σ H Q := h
theorem v_test (h : te σ H fun x H' => ∃ k, x = .bl k ∧ QB k H') : tTest te σ H QB := h
theorem v_B (h : te σ H fun x H' => ∃ k, x = .bl k ∧ QB k H') : tB te σ H QB := h
theorem v_and (h : t σ H fun c H1 => if c = true then u σ H1 QB else QB false H1) : tAnd t u σ H QB := h
theorem v_or (h : t σ H fun c H1 => if c = true then QB true H1 else u σ H1 QB) : tOr t u σ H QB := h
theorem v_not (h : t σ H fun c H1 => QB (!c) H1) : tNot t σ H QB := h
theorem v_andV (h : ta σ H fun x H1 => ∃ c, x = .bl c ∧ if c = true then tb σ H1 Q else Q (.bl false) H1) : tAndV ta tb σ H Q := h
theorem v_orV (h : ta σ H fun x H1 => ∃ c, x = .bl c ∧ if c = true then Q (.bl true) H1 else tb σ H1 Q) : tOrV ta tb σ H Q := h
theorem v_notV (h : ta σ H fun x H1 => ∃ c, x = .bl c ∧ Q (.bl (!c)) H1) : tNotV ta σ H Q := h
theorem v_if (h : t σ H fun c H1 => if c = true then ta σ H1 Q else tb σ H1 Q) : tIf t ta tb σ H Q := h
theorem v_bl {b : Bool} (h : QB b H) : ∃ k, V.bl b = .bl k ∧ QB k H := ⟨b, rfl, h⟩
theorem v_blP {b : Bool} {P : Bool → Prop} (h : P b) : ∃ k, V.bl b = .bl k ∧ P k := ⟨b, rfl, h⟩
theorem v_cb {r : List V → Hp → VK → Prop} {t : TA} (h : t σ H fun vs H1 => r vs H1 Q) : tCB r t σ H Q := h
theorem v_call {sp : Sp} {dvs : List V} {E : XK} {t : TA} (h : t σ H fun vs H1 => sp (vs ++ dvs) H1 Q E) : tCall sp dvs E t σ H Q := h
theorem v_nil {QA : List V → Hp → Prop} (h : QA [] H) : tNil σ H QA := h
theorem v_cons {tr : TA} {QA : List V → Hp → Prop} (h : ta σ H fun x H1 => tr σ H1 fun xs H2 => QA (x :: xs) H2) : tCons ta tr σ H QA := h
theorem v_lst {t : TA} (h : t σ H fun xs H1 => xs.length ≤ sizeLine ∧ ∀ p, H1 p = none → Q (.ref p) (upd H1 p (.lst xs))) : tLst t σ H Q := h
theorem v_tup {t : TA} (h : t σ H fun xs H1 => xs.length ≤ sizeLine ∧ ∀ p, H1 p = none → Q (.ref p) (upd H1 p (.tup xs))) : tTup t σ H Q := h
theorem v_bm0 {T : String} {r : V → List V → Hp → VK → Prop} (h : te σ H fun x H1 => tyV K T x H1 ∧ r x [] H1 Q) : tBM0 K T r te σ H Q := h
theorem v_bm {T : String} {r : V → List V → Hp → VK → Prop} {t : TA} (h : te σ H fun x H1 => tyV K T x H1 ∧ t σ H1 fun xs H2 => r x xs H2 Q) : tBM K T r te t σ H Q := h
theorem v_m0 {r : V → List V → Hp → VK → Prop} (h : te σ H fun x H1 => (∃ a, x = .str a) ∧ r x [] H1 Q) : tM0 r te σ H Q := h
theorem v_m1 {r : V → List V → Hp → VK → Prop} (h : ta σ H fun x H1 => (∃ a, x = .str a) ∧ te σ H1 fun y H2 => r x [y] H2 Q) : tM1 r ta te σ H Q := h
theorem v_strAnd {z : Str} {P : Prop} (h : P) : (∃ a, V.str z = .str a) ∧ P := ⟨⟨z, rfl⟩, h⟩
theorem v_sm0 {z : Str} {P : Str → Prop} (h : P z) : ∃ a, V.str z = .str a ∧ ([] : List V) = [] ∧ True ∧ P a := ⟨z, rfl, rfl, trivial, h⟩
theorem v_sl {r : V → Option Int → Option Int → Hp → VK → Prop} {tl th : TO} (h : te σ H fun x H1 => tl σ H1 fun l H2 => th σ H2 fun w H3 => r x l w H3 Q) : tSl r te tl th σ H Q := h
theorem v_noPart {QO : Option Int → Hp → Prop} (h : QO none H) : tNoPart σ H QO := h
theorem v_part {QO : Option Int → Hp → Prop} (h : te σ H fun x H1 => ∃ i, x = .int i ∧ QO (some i) H1) : tPart te σ H QO := h
theorem v_int {i : Int} {P : Int → Prop} (h : P i) : ∃ k, V.int i = .int k ∧ P k := ⟨i, rfl, h⟩
theorem v_I0 {g : Int → Int → V} {i j : Int} (h : Q (g i j) H) : rI0 g (.int i) (.int j) H Q := ⟨i, j, rfl, rfl, h⟩
theorem v_I {C : Int → Int → Prop} {g : Int → Int → V} {i j : Int} (c : C i j) (h : Q (g i j) H) : rI C g (.int i) (.int j) H Q := ⟨i, j, rfl, rfl, c, h⟩
theorem v_div {i j : Int} (c0 : 0 < j) (c1 : j ≤ 1000000000000) (h : Q (.int (i / j)) H) : rI CDivW (fun i j => .int (i / j)) (.int i) (.int j) H Q := ⟨i, j, rfl, rfl, wide_div (b := 50) c0 (by omega) (by decide) (by decide), h⟩
theorem v_mod {i j : Int} (c0 : 0 < j) (h : Q (.int (i % j)) H) : rI (fun _ j => 0 < j) (fun i j => .int (i % j)) (.int i) (.int j) H Q := ⟨i, j, rfl, rfl, c0, h⟩
theorem v_pow {i j : Int} (c0 : 0 ≤ j) (c1 : j ≤ 1000000) (c2 : i.natAbs < 2 ^ 64) (h : Q (.int (i ^ j.toNat)) H) : rI CPow (fun i j => .int (i ^ j.toNat)) (.int i) (.int j) H Q := ⟨i, j, rfl, rfl, ⟨c0, c1, c2⟩, h⟩
theorem v_powc {i j z : Int} (c0 : 0 ≤ j) (c1 : j ≤ 1000000) (c2 : i.natAbs < 2 ^ 64) (e : i ^ j.toNat = z) (h : Q (.int z) H) : rI CPow (fun i j => .int (i ^ j.toNat)) (.int i) (.int j) H Q := ⟨i, j, rfl, rfl, ⟨c0, c1, c2⟩, by show Q (.int (i ^ j.toNat)) H; rw [e]; exact h⟩
theorem v_U {g : Int → V} {i : Int} (h : Q (g i) H) : rU g (.int i) H Q := ⟨i, rfl, h⟩
theorem v_addI {i j : Int} (h : Q (.int (i + j)) H) : rAddU (.int i) (.int j) H Q := .inl ⟨i, j, rfl, rfl, h⟩
theorem v_addS {i j : Str} (c : i.length + j.length ≤ sizeLine) (h : Q (.str (i ++ j)) H) : rAddU (.str i) (.str j) H Q := .inr (.inl ⟨i, j, rfl, rfl, c, h⟩)
theorem v_addL {l b : Addr} {xs zs : List V} (h1 : H l = some (.lst xs)) (h2 : H b = some (.lst zs)) (c : xs.length + zs.length ≤ sizeLine) (h : ∀ p, H p = none → Q (.ref p) (upd H p (.lst (xs ++ zs)))) : rAddU (.ref l) (.ref b) H Q := .inr (.inr ⟨l, b, xs, zs, rfl, rfl, h1, h2, c, h⟩)
theorem v_mulI {i j : Int} (c : CMul i j) (h : Q (.int (i * j)) H) : rMulU (.int i) (.int j) H Q := .inl ⟨i, j, rfl, rfl, c, h⟩
theorem v_mulS {z : Str} {n : Int} (c1 : -1000 ≤ n) (c2 : n ≤ 10000) (c3 : z.length ≤ 1000) (h : Q (.str (Txt.mul z n)) H) : rMulU (.str z) (.int n) H Q := .inr (.inl ⟨z, n, rfl, rfl, c1, c2, c3, h⟩)
theorem v_eq (s : scal x y = true) (h : Q (.bl (decide (x = y))) H) : rEq x y H Q := ⟨s, h⟩
theorem v_ne (s : scal x y = true) (h : Q (.bl (!decide (x = y))) H) : rNe x y H Q := ⟨s, h⟩
theorem v_ixL {p : Addr} {xs : List V} {i : Int} (h1 : SqL K H p xs) (h2 : atI xs i = some v) (h : Q v H) : rIx K (.ref p) (.int i) H Q := .inl ⟨p, xs, i, v, rfl, rfl, h1, h2, h⟩
theorem v_ixT {p : Addr} {xs : List V} {i : Int} (h1 : SqT K H p xs) (h2 : atI xs i = some v) (h : Q v H) : rIx K (.ref p) (.int i) H Q := .inr (.inl ⟨p, xs, i, v, rfl, rfl, h1, h2, h⟩)
theorem v_ixS {w : Str} {i : Int} {c : Nat} (h1 : w.length ≤ sizeLine) (h2 : atI w.cps.toList i = some c) (h : Q (.str ⟨#[c]⟩) H) : rIx K (.str w) (.int i) H Q := .inr (.inr ⟨w, i, c, rfl, rfl, h1, h2, h⟩)
theorem v_eqU (s : scal x y = true) (h : Q (.bl (decide (x = y))) H) : rEqU K x y H Q := .inl ⟨s, h⟩
theorem v_neU (s : scal x y = true) (h : Q (.bl (!decide (x = y))) H) : rNeU K x y H Q := .inl ⟨s, h⟩
theorem v_eqD {d e : PyData} (h1 : Dp K H x d) (h2 : Dp K H y e) (s1 : SeqAt.shaped d = true) (s2 : SeqAt.shaped e = true) (h : Q (.bl (PyData.eqv d e)) H) : rEqU K x y H Q := .inr ⟨d, e, h1, h2, s1, s2, h⟩
theorem v_neD {d e : PyData} (h1 : Dp K H x d) (h2 : Dp K H y e) (s1 : SeqAt.shaped d = true) (s2 : SeqAt.shaped e = true) (h : Q (.bl (!PyData.eqv d e)) H) : rNeU K x y H Q := .inr ⟨d, e, h1, h2, s1, s2, h⟩
theorem v_slS {w : Str} {lo hi : Option Int} (c : w.length ≤ sizeLine) (h : Q (.str (cutS w lo hi)) H) : rSlU K (.str w) lo hi H Q := .inl ⟨w, rfl, c, h⟩
theorem v_slL {p : Addr} {xs : List V} {lo hi : Option Int} (c : SqL K H p xs) (h : ∀ q, H q = none → Q (.ref q) (upd H q (.lst (cutV xs lo hi)))) : rSlU K (.ref p) lo hi H Q := .inr ⟨p, xs, rfl, c, h⟩
theorem v_leU {i j : Int} (h : Q (.bl (decide (i ≤ j))) H) : rLeU (.int i) (.int j) H Q := ⟨i, j, rfl, rfl, h⟩
theorem v_geU {i j : Int} (h : Q (.bl (decide (j ≤ i))) H) : rGeU (.int i) (.int j) H Q := ⟨i, j, rfl, rfl, h⟩
theorem v_gtU {i j : Int} (h : Q (.bl (decide (j < i))) H) : rGtU (.int i) (.int j) H Q := ⟨i, j, rfl, rfl, h⟩
theorem v_ltU {i j : Int} (h : Q (.bl (decide (i < j))) H) : rLtU (.int i) (.int j) H Q := .inl ⟨i, j, rfl, rfl, h⟩
theorem v_ltS {i j : Str} (h : Q (.bl (decide (i.cps.toList < j.cps.toList))) H) : rLtU (.str i) (.str j) H Q := .inr ⟨i, j, rfl, rfl, h⟩
theorem v_lenS {w : Str} (c : w.length ≤ sizeLine) (h : Q (.int w.length) H) : rLenU K [.str w] H Q := .inr (.inl ⟨w, rfl, c, h⟩)
theorem v_lenL {p : Addr} {xs : List V} (c : SqL K H p xs) (h : Q (.int xs.length) H) : rLenU K [.ref p] H Q := .inl ⟨p, xs, rfl, .inl c, h⟩
theorem v_lenT {p : Addr} {xs : List V} (c : SqT K H p xs) (h : Q (.int xs.length) H) : rLenU K [.ref p] H Q := .inl ⟨p, xs, rfl, .inr c, h⟩
theorem v_lenD {p : Addr} {kvs : List (Key × V)} (c : H p = some (.dK kvs)) (h : Q (.int kvs.length) H) : rLenU K [.ref p] H Q := .inr (.inr ⟨p, kvs, rfl, c, h⟩)
theorem v_max2 {i j : Int} (h : Q (.int (if j > i then j else i)) H) : rMaxU K [.int i, .int j] H Q := .inl ⟨i, j, rfl, h⟩
theorem v_min2 {i j : Int} (h : Q (.int (if j < i then j else i)) H) : rMinU K [.int i, .int j] H Q := .inl ⟨i, j, rfl, h⟩
theorem v_reprB {b : Bool} (h : Q (.str (if b then "True" else "False")) H) : rReprU [.bl b] H Q := .inl ⟨b, rfl, h⟩
theorem v_reprI {i : Int} (c : i.natAbs.log2 < 1920) (h : Q (.str (toString i)) H) : rReprU [.int i] H Q := .inr ⟨i, rfl, c, h⟩
theorem v_intI {i : Int} (h : Q (.int i) H) : rIntU [.int i] H Q := .inl (.inl ⟨i, rfl, h⟩)
theorem v_intB {b : Bool} (h : Q (.int (if b then 1 else 0)) H) : rIntU [.bl b] H Q := .inl (.inr ⟨b, rfl, h⟩)
theorem v_strI {i : Int} (c : i.natAbs.log2 < 1920) (h : Q (.str (toString i)) H) : rStrU [.int i] H Q := .inl ⟨i, rfl, c, h⟩
theorem v_strS {w : Str} (h : Q (.str w) H) : rStrU [.str w] H Q := .inr ⟨w, rfl, h⟩
theorem v_isi {c : V} {t u : Value} {b : Bool} (h1 : ClsV c u) (h2 : TyX K H x t) (h3 : PySem.W.kitOne K t u = some b) (h : Q (.bl b) H) : rIsiU K [x, c] H Q := .inl ⟨x, c, t, u, b, rfl, h1, h2, h3, h⟩
theorem v_inS {c : Nat} {w : Str} (h : Q (.bl (decide (c ∈ w.cps.toList))) H) : rInU K (.str ⟨#[c]⟩) (.str w) H Q := .inl ⟨c, w, rfl, rfl, h⟩
theorem v_notInS {c : Nat} {w : Str} (h : Q (.bl (!decide (c ∈ w.cps.toList))) H) : rNotInU K (.str ⟨#[c]⟩) (.str w) H Q := .inl ⟨c, w, rfl, rfl, h⟩
theorem v_inL {p : Addr} {xs : List V} (c : SqL K H p xs) (f1 : flatV x = true) (f2 : xs.all flatV = true) (h : Q (.bl (inV x xs)) H) : rInU K x (.ref p) H Q := .inr ⟨p, xs, rfl, .inl c, f1, f2, h⟩
theorem v_notInL {p : Addr} {xs : List V} (c : SqL K H p xs) (f1 : flatV x = true) (f2 : xs.all flatV = true) (h : Q (.bl (!inV x xs)) H) : rNotInU K x (.ref p) H Q := .inr ⟨p, xs, rfl, .inl c, f1, f2, h⟩
theorem v_inT {p : Addr} {xs : List V} (c : SqT K H p xs) (f1 : flatV x = true) (f2 : xs.all flatV = true) (h : Q (.bl (inV x xs)) H) : rInU K x (.ref p) H Q := .inr ⟨p, xs, rfl, .inr c, f1, f2, h⟩
theorem v_par {i j : Nat} {ta : TA} (h : ta σ H fun vs H1 => ∃ v w, vs = [v, w] ∧ D.nx ((σ.set i (some v)).set j (some w)) H1) : tPar i j ta D σ H := h
theorem v_two {v w : V} {P : V → V → Prop} (h : P v w) : ∃ a b, [v, w] = [a, b] ∧ P a b := ⟨v, w, rfl, h⟩
theorem v_twoS {i j : Nat} {v w : V} {Qs : St → Hp → Prop} (e : (σ.set i (some v)).set j (some w) = σ') (h : Qs σ' H) : ∃ a b, [v, w] = [a, b] ∧ Qs ((σ.set i (some a)).set j (some b)) H := ⟨v, w, rfl, by rw [e]; exact h⟩
theorem v_sets {Qs : St → Hp → Prop} (e : σ = σ') (h : Qs σ' H) : Qs σ H := by rw [e]; exact h
theorem v_callKn {n m : Nat} {sp : Sp} {gV : List V → List V → List V} {E : XK} {t tk : TA} (h : t σ H fun vs H1 => tk σ H1 fun zs H2 => vs.length = n ∧ zs.length = m ∧ sp (gV vs zs) H2 Q E) : tCallKn n m sp gV E t tk σ H Q := h
theorem v_gSub {ti : TE} {rs : TSet} {Qs : St → Hp → Prop} (h : ta σ H fun o H1 => ti σ H1 fun i H2 => rs o i v H2 fun H3 => Qs σ H3) : gSub ta ti rs v σ H Qs := h
theorem v_setL {p : Addr} {xs : List V} {k : Int} {j : Nat} {Qs : Hp → Prop} (h1 : H p = some (.lst xs)) (h2 : ixN xs.length k = some j) (h : Qs (upd H p (.lst (xs.set j v)))) : rSetL (.ref p) (.int k) v H Qs := ⟨p, xs, k, j, rfl, rfl, h1, h2, h⟩
theorem v_disp {trs : List (TE × TE)} (h : ∀ p, H p = none → tPairs trs σ (upd H p (.dK [])) fun ps H2 => H2 p = some (.dK []) ∧ ∃ kvs : List (Key × V), ps = kvs.map (fun kv => (kV kv.1, kv.2)) ∧ kvs.length ≤ 15 ∧ Q (.ref p) (upd H2 p (.dK (mergeK [] kvs)))) : tDisp trs σ H Q := h
theorem v_pnil {QP : List (V × V) → Hp → Prop} (h : QP [] H) : tPairs [] σ H QP := h
theorem v_pcons {r : List (TE × TE)} {QP : List (V × V) → Hp → Prop} (h : ta σ H fun x H1 => tb σ H1 fun y H2 => tPairs r σ H2 fun ps H3 => QP ((x, y) :: ps) H3) : tPairs ((ta, tb) :: r) σ H QP := h
/-! tests -/
theorem v_iteB {b : Bool} {A B : Prop} (h1 : b = true → A) (h2 : b = false → B) : if b = true then A else B := by
  cases b with
  | true => exact h1 rfl
  | false => exact h2 rfl
theorem v_iteD {c A B : Prop} [Decidable c] (h1 : c → A) (h2 : ¬ c → B) : if decide c = true then A else B := v_iteB (fun h => h1 (of_decide_eq_true h)) (fun h => h2 (of_decide_eq_false h))
theorem v_iteN {c A B : Prop} [Decidable c] (h1 : ¬ c → A) (h2 : c → B) : if (!decide c) = true then A else B := v_iteB (fun h => h1 (fun hc => by rw [decide_eq_true hc] at h; exact Bool.noConfusion h)) (fun h => h2 (Classical.byContradiction fun hc => by rw [decide_eq_false hc] at h; exact Bool.noConfusion h))
theorem v_iteDT {c A B : Prop} [Decidable c] (hc : c) (h : A) : if decide c = true then A else B := v_iteD (fun _ => h) (fun n => absurd hc n)
theorem v_iteDF {c A B : Prop} [Decidable c] (hc : ¬ c) (h : B) : if decide c = true then A else B := v_iteD (fun n => absurd n hc) (fun _ => h)
theorem v_iteNT {c A B : Prop} [Decidable c] (hc : ¬ c) (h : A) : if (!decide c) = true then A else B := v_iteN (fun _ => h) (fun n => absurd n hc)
theorem v_iteNF {c A B : Prop} [Decidable c] (hc : c) (h : B) : if (!decide c) = true then A else B := v_iteN (fun n => absurd hc n) (fun _ => h)
theorem v_iteT {A B : Prop} (h : A) : if true = true then A else B := by rw [if_pos rfl]; exact h
theorem v_iteF {A B : Prop} (h : B) : if false = true then A else B := by rw [if_neg Bool.false_ne_true]; exact h
theorem v_iteFt {A B : Prop} (h : A) : if (!false) = true then A else B := by rw [if_pos (show (!false) = true from rfl)]; exact h
theorem v_iteTf {A B : Prop} (h : B) : if (!true) = true then A else B := by rw [if_neg (show ¬ (!true) = true from by decide)]; exact h
theorem v_iteBT {b : Bool} {A B : Prop} (e : b = true) (h : A) : if b = true then A else B := by rw [if_pos e]; exact h
theorem v_iteBF {b : Bool} {A B : Prop} (e : b = false) (h : B) : if b = true then A else B := by rw [e]; exact v_iteF h
theorem v_iteE {b c : Bool} {A B : Prop} (e : b = c) (h : if c = true then A else B) : if b = true then A else B := by rw [e]; exact h
/-! loops -/
/-- what a for asks of what it walks -/
def ForW (g : TG) (tb : TS) (D : Ends) (σ : St) (J : It) (H1 : Hp) : Prop := ∃ W : Nat → Nat → St → Hp → Prop, (∃ m, W 0 m σ H1) ∧ ∀ i m σ H, W i m σ H →
  (J.stop i H ∧ D.nx σ H) ∨ (J.go i H ∧ ∃ N : St → Hp → Prop, (∀ σ' H', N σ' H' → ∃ m', m' < m ∧ W (i + 1) m' σ' H') ∧ ∀ x H', J.yld i H x H' → g x σ H' fun σ2 H2 => tb { D with nx := N, ct := N, bk := D.nx } σ2 H2)
theorem v_for {wi : TI} {g : TG} (h : wi σ H fun J H1 => ForW g s1 D σ J H1) : tFor wi g s1 D σ H := h
def LcW (g : TG) (tt : TT) (te : TE) (vs : List Nat) (σ : St) (Q : VK) (J : It) (H1 : Hp) : Prop := ∀ D, H1 D = none → ∃ W : Nat → Nat → Hp → Prop, (∃ m, W 0 m (upd H1 D (.lst []))) ∧ ∀ i m H, W i m H →
  (J.stop i H ∧ Q (.ref D) H) ∨ (J.go i H ∧ ∃ Nx : Hp → Prop, (∀ H', Nx H' → ∃ m', m' < m ∧ W (i + 1) m' H') ∧ ∀ x H', J.yld i H x H' → g x (wipe σ vs) H' fun σ2 H2 => wipe σ2 vs = wipe σ vs ∧ tt σ2 H2 fun b H3 =>
    if b = true then te σ2 H3 fun y H4 => ∃ acc, H4 D = some (.lst acc) ∧ acc.length < sizeLine ∧ Nx (upd H4 D (.lst (acc ++ [y]))) else Nx H3)
theorem v_lc {wi : TI} {g : TG} {vs : List Nat} (h : wi σ H fun J H1 => LcW g t te vs σ Q J H1) : tLc wi g t te vs σ H Q := h
theorem v_iList {R : It → Hp → Prop} (h : te σ H fun x H1 => ∃ a, x = .ref a ∧ (∃ xs, SqL K H1 a xs) ∧ R (Itl K a) H1) : iList K te σ H R := h
theorem v_iRng1 {ta : TA} {R : It → Hp → Prop} (h : ta σ H fun vs H1 => ∃ j : Int, vs = [.int j] ∧ -(2 ^ 62) ≤ j ∧ j < 2 ^ 62 ∧ R (Itr 0 j.toNat) H1) : iRng1 ta σ H R := h
theorem v_iRng2 {ta : TA} {R : It → Hp → Prop} (h : ta σ H fun vs H1 => ∃ i j : Int, vs = [.int i, .int j] ∧ (-(2 ^ 62) ≤ i ∧ i < 2 ^ 62 ∧ -(2 ^ 62) ≤ j ∧ j < 2 ^ 62) ∧ R (Itr i (j - i).toNat) H1) : iRng2 ta σ H R := h
theorem v_iStr {R : It → Hp → Prop} (h : te σ H fun v H1 => ∃ x, v = .str x ∧ R (Its x) H1) : iStr te σ H R := h
theorem e_forL {a : Addr} {xs : List V} {g : TG} (hx : SqL K H a xs) (Pv : Nat → St → Hp → Prop) (h0 : Pv 0 σ H) (hl : ∀ i σ H, i ≤ xs.length → Pv i σ H → SqL K H a xs)
    (hs : ∀ i x σ H, xs[i]? = some x → Pv i σ H → g x σ H fun σ2 H2 => s1 { D with nx := Pv (i + 1), ct := Pv (i + 1), bk := D.nx } σ2 H2) (hd : ∀ σ H, Pv xs.length σ H → D.nx σ H) :
    ∃ a', V.ref a = .ref a' ∧ (∃ xs, SqL K H a' xs) ∧ ForW g s1 D σ (Itl K a') H := ⟨a, rfl, ⟨xs, hx⟩, for_list Pv h0 hl hs hd⟩
theorem e_forR1 {n : Int} {g : TG} (hn : 0 ≤ n ∧ n ≤ 1000000) (Pv : Nat → St → Hp → Prop) (h0 : Pv 0 σ H)
    (hs : ∀ (i : Nat) σ H, (i : Int) < n → Pv i σ H → g (.int (i : Int)) σ H fun σ2 H2 => s1 { D with nx := Pv (i + 1), ct := Pv (i + 1), bk := D.nx } σ2 H2) (hd : ∀ σ H, Pv n.toNat σ H → D.nx σ H) :
    ∃ j : Int, [V.int n] = [.int j] ∧ -(2 ^ 62) ≤ j ∧ j < 2 ^ 62 ∧ ForW g s1 D σ (Itr 0 j.toNat) H := ⟨n, rfl, by omega, by omega, for_range Pv h0 (fun i σ H hi p => by
      have := hs i σ H (by omega) p
      rw [Int.zero_add]
      exact this) hd⟩
theorem e_forR2 {lo n : Int} {g : TG} (hn : 0 ≤ lo ∧ lo ≤ 1000000 ∧ -1000000 ≤ n ∧ n ≤ 1000000) (Pv : Nat → St → Hp → Prop) (h0 : Pv 0 σ H)
    (hs : ∀ (i : Nat) σ H, lo + (i : Int) < n → Pv i σ H → g (.int (lo + (i : Int))) σ H fun σ2 H2 => s1 { D with nx := Pv (i + 1), ct := Pv (i + 1), bk := D.nx } σ2 H2) (hd : ∀ σ H, Pv (n - lo).toNat σ H → D.nx σ H) :
    ∃ i j : Int, [V.int lo, V.int n] = [.int i, .int j] ∧ (-(2 ^ 62) ≤ i ∧ i < 2 ^ 62 ∧ -(2 ^ 62) ≤ j ∧ j < 2 ^ 62) ∧ ForW g s1 D σ (Itr i (j - i).toNat) H := ⟨lo, n, rfl, by omega, for_range Pv h0 (fun i σ H hi p => hs i σ H (by omega) p) hd⟩
theorem e_lcL {a : Addr} {xs : List V} {g : TG} {vs : List Nat} (hx : SqL K H a xs) (hh : ∀ Dl, H Dl = none → ∃ Pv : Nat → Hp → Prop, Pv 0 (upd H Dl (.lst [])) ∧ (∀ i H, i ≤ xs.length → Pv i H → SqL K H a xs) ∧
      (∀ i x H, xs[i]? = some x → Pv i H → g x (wipe σ vs) H fun σ2 H2 => wipe σ2 vs = wipe σ vs ∧ t σ2 H2 fun b H3 =>
        if b = true then te σ2 H3 fun y H4 => ∃ acc, H4 Dl = some (.lst acc) ∧ acc.length < sizeLine ∧ Pv (i + 1) (upd H4 Dl (.lst (acc ++ [y]))) else Pv (i + 1) H3) ∧ ∀ H, Pv xs.length H → Q (.ref Dl) H) :
    ∃ a', V.ref a = .ref a' ∧ (∃ xs, SqL K H a' xs) ∧ LcW g t te vs σ Q (Itl K a') H := ⟨a, rfl, ⟨xs, hx⟩, fun Dl hD => by
      obtain ⟨Pv, h0, hl, hs, hd⟩ := hh Dl hD
      exact lc_list Pv h0 hl hs hd⟩
theorem e_lcR1 {n : Int} {g : TG} {vs : List Nat} (hn : 0 ≤ n ∧ n ≤ 1000000) (hh : ∀ Dl, H Dl = none → ∃ Pv : Nat → Hp → Prop, Pv 0 (upd H Dl (.lst [])) ∧
      (∀ (i : Nat) H, (i : Int) < n → Pv i H → g (.int (i : Int)) (wipe σ vs) H fun σ2 H2 => wipe σ2 vs = wipe σ vs ∧ t σ2 H2 fun b H3 =>
        if b = true then te σ2 H3 fun y H4 => ∃ acc, H4 Dl = some (.lst acc) ∧ acc.length < sizeLine ∧ Pv (i + 1) (upd H4 Dl (.lst (acc ++ [y]))) else Pv (i + 1) H3) ∧ ∀ H, Pv n.toNat H → Q (.ref Dl) H) :
    ∃ j : Int, [V.int n] = [.int j] ∧ -(2 ^ 62) ≤ j ∧ j < 2 ^ 62 ∧ LcW g t te vs σ Q (Itr 0 j.toNat) H := ⟨n, rfl, by omega, by omega, fun Dl hD => by
      obtain ⟨Pv, h0, hs, hd⟩ := hh Dl hD
      exact lc_range Pv h0 (fun i H hi p => by
        have := hs i H (by omega) p
        rw [Int.zero_add]
        exact this) hd⟩
theorem e_lcS {x : Str} {g : TG} {vs : List Nat} (hh : ∀ Dl, H Dl = none → ∃ Pv : Nat → Hp → Prop, Pv 0 (upd H Dl (.lst [])) ∧
      (∀ (i : Nat) (c : Nat) H, x.cps[i]? = some c → Pv i H → g (.str ⟨#[c]⟩) (wipe σ vs) H fun σ2 H2 => wipe σ2 vs = wipe σ vs ∧ t σ2 H2 fun b H3 =>
        if b = true then te σ2 H3 fun y H4 => ∃ acc, H4 Dl = some (.lst acc) ∧ acc.length < sizeLine ∧ Pv (i + 1) (upd H4 Dl (.lst (acc ++ [y]))) else Pv (i + 1) H3) ∧ ∀ H, Pv x.cps.size H → Q (.ref Dl) H) :
    ∃ x', V.str x = .str x' ∧ LcW g t te vs σ Q (Its x') H := ⟨x, rfl, fun Dl hD => by
      obtain ⟨Pv, h0, hs, hd⟩ := hh Dl hD
      have w : Walk (Its x) x.cps.size (fun _ => True) (fun i H v H' => H' = H ∧ ∃ c, x.cps[i]? = some c ∧ v = .str ⟨#[c]⟩) := ⟨fun _ _ hi _ => hi, fun _ _ => Nat.le_refl _, fun _ _ _ _ _ _ y => y⟩
      exact lc_it w Pv h0 (fun _ _ _ _ => True.intro) (fun i v H H' hi p y => by
        obtain ⟨rfl, c, hc, rfl⟩ := y
        exact hs i c _ hc p) hd⟩
theorem wipe1 {j : Nat} {n : Str} : wipe σ (List.map (·.2) [(n, j)]) = σ.set j none := rfl
theorem wipe1s {j : Nat} {n : Str} {x : V} : (wipe σ (List.map (·.2) [(n, j)])).set j (some x) = σ.set j (some x) := by rw [wipe1, List.set_set]
theorem wipe1w {j : Nat} {n : Str} {x : V} : wipe (σ.set j (some x)) (List.map (·.2) [(n, j)]) = wipe σ (List.map (·.2) [(n, j)]) := by rw [wipe1, wipe1, List.set_set]
/-- comprehensions whose target is a name -/
theorem e_lcS1 {x : Str} {j : Nat} {n : Str} (hh : ∀ Dl, H Dl = none → ∃ Pv : Nat → Hp → Prop, Pv 0 (upd H Dl (.lst [])) ∧
      (∀ (i : Nat) (c : Nat) H, x.cps[i]? = some c → Pv i H → t (σ.set j (some (.str ⟨#[c]⟩))) H fun b H3 =>
        if b = true then te (σ.set j (some (.str ⟨#[c]⟩))) H3 fun y H4 => ∃ acc, H4 Dl = some (.lst acc) ∧ acc.length < sizeLine ∧ Pv (i + 1) (upd H4 Dl (.lst (acc ++ [y]))) else Pv (i + 1) H3) ∧ ∀ H, Pv x.cps.size H → Q (.ref Dl) H) :
    ∃ x', V.str x = .str x' ∧ LcW (gName j) t te (List.map (·.2) [(n, j)]) σ Q (Its x') H := e_lcS fun Dl hD => by
      obtain ⟨Pv, h0, hs, hd⟩ := hh Dl hD
      refine ⟨Pv, h0, fun i c H' hi p => ?_, hd⟩
      show (wipe ((wipe σ (List.map (·.2) [(n, j)])).set j (some (.str ⟨#[c]⟩))) _ = wipe σ (List.map (·.2) [(n, j)])) ∧ _
      rw [wipe1s]
      exact ⟨wipe1w, hs i c H' hi p⟩
theorem e_lcR11 {n : Int} {j : Nat} {nm : Str} (hn : 0 ≤ n ∧ n ≤ 1000000) (hh : ∀ Dl, H Dl = none → ∃ Pv : Nat → Hp → Prop, Pv 0 (upd H Dl (.lst [])) ∧
      (∀ (i : Nat) H, (i : Int) < n → Pv i H → t (σ.set j (some (.int (i : Int)))) H fun b H3 =>
        if b = true then te (σ.set j (some (.int (i : Int)))) H3 fun y H4 => ∃ acc, H4 Dl = some (.lst acc) ∧ acc.length < sizeLine ∧ Pv (i + 1) (upd H4 Dl (.lst (acc ++ [y]))) else Pv (i + 1) H3) ∧ ∀ H, Pv n.toNat H → Q (.ref Dl) H) :
    ∃ k : Int, [V.int n] = [.int k] ∧ -(2 ^ 62) ≤ k ∧ k < 2 ^ 62 ∧ LcW (gName j) t te (List.map (·.2) [(nm, j)]) σ Q (Itr 0 k.toNat) H := e_lcR1 hn fun Dl hD => by
      obtain ⟨Pv, h0, hs, hd⟩ := hh Dl hD
      refine ⟨Pv, h0, fun i H' hi p => ?_, hd⟩
      show (wipe ((wipe σ (List.map (·.2) [(nm, j)])).set j (some (.int (i : Int)))) _ = wipe σ (List.map (·.2) [(nm, j)])) ∧ _
      rw [wipe1s]
      exact ⟨wipe1w, hs i H' hi p⟩
theorem e_lcL1 {a : Addr} {xs : List V} {j : Nat} {nm : Str} (hx : SqL K H a xs) (hh : ∀ Dl, H Dl = none → ∃ Pv : Nat → Hp → Prop, Pv 0 (upd H Dl (.lst [])) ∧ (∀ i H, i ≤ xs.length → Pv i H → SqL K H a xs) ∧
      (∀ i x H, xs[i]? = some x → Pv i H → t (σ.set j (some x)) H fun b H3 =>
        if b = true then te (σ.set j (some x)) H3 fun y H4 => ∃ acc, H4 Dl = some (.lst acc) ∧ acc.length < sizeLine ∧ Pv (i + 1) (upd H4 Dl (.lst (acc ++ [y]))) else Pv (i + 1) H3) ∧ ∀ H, Pv xs.length H → Q (.ref Dl) H) :
    ∃ a', V.ref a = .ref a' ∧ (∃ xs, SqL K H a' xs) ∧ LcW (gName j) t te (List.map (·.2) [(nm, j)]) σ Q (Itl K a') H := e_lcL hx fun Dl hD => by
      obtain ⟨Pv, h0, hl, hs, hd⟩ := hh Dl hD
      refine ⟨Pv, h0, hl, fun i x H' hi p => ?_, hd⟩
      show (wipe ((wipe σ (List.map (·.2) [(nm, j)])).set j (some x)) _ = wipe σ (List.map (·.2) [(nm, j)])) ∧ _
      rw [wipe1s]
      exact ⟨wipe1w, hs i x H' hi p⟩
theorem v_yes (h : QB true H) : tYes σ H QB := h
end
/-! heaps -/
section
variable {K : PySem.W.Frag} {σ σ' : St} {H H' : Hp} {ta tb te tx : TE} {t u : TT} {x y z v : V} {D : Ends} {s1 s2 : TS} {Q : VK} {QB : Bool → Hp → Prop} {r r' : R2}
theorem h_new {p q : Addr} {o o' : HO} (hp : H p = none) (h : H q = some o') : upd H p o q = some o' := by
  rw [upd_ne (ne_of_none h hp)]
  exact h
theorem h_mut {p q : Addr} {o o' : HO} (hp : q ≠ p) (h : H q = some o') : upd H p o q = some o' := by
  rw [upd_ne hp]
  exact h
theorem h_free {p q : Addr} {o : HO} (hp : q ≠ p) (h : H q = none) : upd H p o q = none := by
  rw [upd_ne hp]
  exact h
/-- all but b stays -/
def But (b : Addr) (H H' : Hp) : Prop := ∀ a o, a ≠ b → H a = some o → H' a = some o
theorem But.refl (b : Addr) (H : Hp) : But b H H := fun _ _ _ h => h
theorem But.trans {b : Addr} {H H1 H2 : Hp} (a : But b H H1) (c : But b H1 H2) : But b H H2 := fun x o n h => c x o n (a x o n h)
theorem But.new {b p : Addr} {o : HO} {H H1 : Hp} (a : But b H H1) (hp : H1 p = none) : But b H (upd H1 p o) := fun x o n h => h_new hp (a x o n h)
theorem But.at {b : Addr} {o : HO} {H H1 : Hp} (a : But b H H1) : But b H (upd H1 b o) := fun x o n h => h_mut n (a x o n h)
theorem But.mut {b p : Addr} {o : HO} {H H1 : Hp} (a : But b H H1) (hp : H p = none) : But b H (upd H1 p o) := fun x o n h => h_mut (ne_of_none h hp) (a x o n h)
theorem But.seq {b a : Addr} {xs : List V} {H H' : Hp} (e : But b H H') (n : a ≠ b) (h : SqL K H a xs) : SqL K H' a xs := by
  rcases h with (h | ⟨o, h⟩) | h
  · exact .inl (.inl (e _ _ n h))
  · exact .inl (.inr ⟨o, e _ _ n h⟩)
  · exact .inr h
end
/-! ### data -/
theorem canLay_strs : ∀ {xs : List Str}, (∀ x ∈ xs, PyData.strOk x = true) → PyData.canLayAll0 (xs.map PyData.str) = true
  | [], _ => rfl
  | x :: xs, h => by
    show (PyData.canLay0 (.str x) && PyData.canLayAll0 (xs.map PyData.str)) = true
    rw [Bool.and_eq_true]
    exact ⟨h x List.mem_cons_self, canLay_strs fun y hy => h y (List.mem_cons_of_mem _ hy)⟩
theorem depth_strs : ∀ {xs : List Str}, PyData.depthAll (xs.map PyData.str) = 0
  | [] => rfl
  | x :: xs => by
    show max (PyData.depth (.str x)) (PyData.depthAll (xs.map PyData.str)) = 0
    rw [depth_strs]
    rfl
theorem shaped_strs {xs : List Str} (h : ∀ x ∈ xs, PyData.strOk x = true) : SeqAt.shaped (.list (xs.map PyData.str)) = true := by
  unfold SeqAt.shaped
  rw [Bool.and_eq_true]
  refine ⟨canLay_strs h, decide_eq_true ?_⟩
  show PyData.depthAll (xs.map PyData.str) + 1 ≤ 64
  rw [depth_strs]
  decide
theorem dp_strs {K : PySem.W.Frag} {H : Hp} : ∀ {xs : List Str}, DpAll K H (xs.map V.str) (xs.map PyData.str)
  | [] => .nil
  | x :: xs => .cons (.str x) dp_strs
theorem eqv_nil (ds : List PyData) : PyData.eqv (.list ds) (.list []) = ds.isEmpty := by
  show PyData.eqvAll ds [] = ds.isEmpty
  cases ds <;> rfl
theorem take_succ {α : Type} {l : List α} {i : Nat} {c : α} (h : l[i]? = some c) : l.take (i + 1) = l.take i ++ [c] := by
  rw [List.take_add_one, h]
  rfl
theorem But.seqN {K : PySem.W.Frag} {b a : Addr} {xs : List V} {H H' : Hp} (e : But b H H') (n : H b = none) (h : SqL K H a xs) : SqL K H' a xs := by
  rcases h with (h | ⟨o, h⟩) | h
  · exact .inl (.inl (e _ _ (ne_of_none h n) h))
  · exact .inl (.inr ⟨o, e _ _ (ne_of_none h n) h⟩)
  · exact .inr h
theorem But.of {b : Addr} {H H' : Hp} (e : Same H H') : But b H H' := fun a o _ h => e a o h
theorem But.get {b a : Addr} {o : HO} {H H' : Hp} (e : But b H H') (n : a ≠ b) (h : H a = some o) : H' a = some o := e a o n h
theorem atI_of {α : Type} {xs : List α} {i : Int} (h0 : 0 ≤ i) (h1 : i < xs.length) : ∃ (h : i.toNat < xs.length), atI xs i = some xs[i.toNat] := by
  have h : i.toNat < xs.length := by omega
  refine ⟨h, ?_⟩
  unfold atI ixN
  rw [if_pos h0, if_pos h1]
  show xs[i.toNat]? = _
  rw [List.getElem?_eq_getElem h]
theorem atI_strs {L : List Str} {i : Int} {P : Str → Prop} (h0 : 0 ≤ i) (h1 : i < L.length) (hP : ∀ s ∈ L, P s) : ∃ s, atI (L.map V.str) i = some (.str s) ∧ P s := by
  obtain ⟨h, e⟩ := atI_of (xs := L.map V.str) h0 (by rw [List.length_map]; exact h1)
  rw [List.length_map] at h
  refine ⟨L[i.toNat], ?_, hP _ (List.getElem_mem h)⟩
  rw [e, List.getElem_map]
theorem tl_eq {x : Str} {l : List Nat} (h : x.cps.toList = l) : x = ⟨l.toArray⟩ := by
  subst h
  cases x
  simp
theorem len_tl (x : Str) : x.length = x.cps.toList.length := Array.length_toList.symm
open TL in
theorem joinL_ones : ∀ cs : List Nat, joinL [] (cs.map fun c => [c]) = cs
  | [] => rfl
  | [c] => rfl
  | c :: d :: r => by
    show [c] ++ ([] ++ joinL [] ((d :: r).map fun c => [c])) = c :: d :: r
    rw [joinL_ones (d :: r)]
    rfl
open TL in
theorem join_ones (cs : List Nat) : (Txt.join "" (cs.map fun c => (⟨#[c]⟩ : Str))).cps.toList = cs := by
  rw [join_eq]
  have h := tl_join "" (cs.map fun c => (⟨#[c]⟩ : Str))
  have e : List.map tl (cs.map fun c => (⟨#[c]⟩ : Str)) = cs.map fun c => [c] := by rw [List.map_map]; rfl
  rw [e] at h
  have e2 : tl ("" : Str) = [] := by decide +kernel
  rw [e2, joinL_ones] at h
  exact h
theorem tl_cut (z : Str) (lo hi : Option Int) : ∀ c ∈ (cutS z lo hi).cps.toList, c ∈ z.cps.toList := by
  intro c hc
  have h : c ∈ (z.cps.toList.drop (HT.sIx z.length 0 lo)).take (HT.sIx z.length z.length hi - HT.sIx z.length 0 lo) := by
    have e : (cutS z lo hi).cps.toList = (z.cps.toList.drop (HT.sIx z.length 0 lo)).take (HT.sIx z.length z.length hi - HT.sIx z.length 0 lo) := by
      unfold cutS
      simp
    rw [e] at hc
    exact hc
  exact List.mem_of_mem_drop (List.mem_of_mem_take h)
theorem tl_app (x y : Str) : (x ++ y).cps.toList = x.cps.toList ++ y.cps.toList := TL.tl_append x y
theorem len_app (x y : Str) : (x ++ y).length = x.length + y.length := by rw [len_tl, tl_app, List.length_append, ← len_tl, ← len_tl]
theorem log2_small {i : Int} (h : i.natAbs < 2 ^ 200) : i.natAbs.log2 < 1920 := Nat.lt_of_lt_of_le (PySem.Flt.log2_lt_of (by decide) h) (by decide)
theorem len_num {i : Int} (h : i.natAbs.log2 < 1920) : (Str.ofString (toString i)).length ≤ sizeLine := PySem.int_text_fits h
end Vc

set_option Elab.async false
set_option linter.all false
set_option maxRecDepth 100000
set_option maxHeartbeats 4000000
/-! own exceptions whose __init__ begins by super().__init__(text) -/
namespace Xs
open PySem L2
/-- what the top has written of such an __init__ and its class -/
structure SupT (P : Program) (K : PySem.W.Frag) (mg : Str → Option Value) (C f : Addr) (name qual : Str) (params : Arguments) (body : List Stmt) (scope : Scope) (fd : FuncData) : Prop where
  ox : OexC K C
  ini : PySem.W.findIn K (.ref C) "__init__" = some (some (.ref f))
  tyI : PySem.W.typeIn K (.ref f) = some (.type "function")
  ex : ∃ (oc : Value) (od : Option Addr) (dV kV doc pm : Value) (an : Option Addr) (cda : Addr) (ct : Value) (osl : Array (Option Value)) (cc : Addr) (ccl : Value) (cdd : Option Addr) (cvs : Array Value) (ccs : Array (Option Value)) (file : Str) (tf : Tok) (cl : Value) (cld : Option Addr) (csl : Array (Option Value)) (cdC : ClassData),
    fd = PySem.W.ksFn name qual params body scope dV kV doc pm an (.ref cda) ct cc ∧ K.lookup f = some ⟨oc, od, .func fd, osl⟩ ∧ PySem.W.codeIn K (.ref cda) qual = true ∧
    K.lookup cda = some ⟨ccl, cdd, .fields cvs, ccs⟩ ∧ cvs[2]? = some (.str file tf) ∧ ((P.main.file : Str) == file) = true ∧ K.lookup cc = some ⟨cl, cld, .cell (some (.ref C)), csl⟩ ∧ PySem.W.clsIn K C = some cdC
  sub : PySem.W.mroIn K C (.ref C) = some true
  sup : PySem.W.ks_superIn K C C "__init__" = some (some (.builtin "ValueError.__init__"))
  veC : PySem.W.subIn K (.ref C) (.type "ValueError") = some true
  mgS : mg "super" = none
  tp : PySem.W.nsIn K cStatics "thirdparty.any" = some none
  top : (P.main.scope.names.lookup ("super" : Str)).isSome = false
/-- its scope: parameters (self first) local, super global, __class__ free -/
structure SupS (ps : List Str) (params : Arguments) (sc : Scope) : Prop where
  kind : sc.kind = .function
  co : sc.isCoroutine = false
  gen : sc.isGenerator = false
  nd : ps.Nodup
  par : ∀ x ∈ ps, sc.names.lookup x = some .local
  nocell : ∀ x ∈ sc.names, x.2 ≠ .cell
  free : ∀ x, sc.names.lookup x = some .free → x = "__class__"
  nocell2 : ∀ x, sc.names.lookup x ≠ some .cell
  sup : sc.names.lookup ("super" : Str) = some .globalImplicit
  cls : sc.names.lookup ("__class__" : Str) = some .free
  hd : ∃ ar : Arg, (params.posonlyargs ++ params.args).head? = some ar ∧ ps.head? = some ar.arg
/-- the context of its body -/
def cxS (CX : CXT) (P : Program) (w : World) (K : PySem.W.Frag) (mg : Str → Option Value) (base : Heap) (N : List Str) (qual : Str) (scope : Scope) (f : Addr) (cd : Value) (cc : Addr) (A : Around) (outer : List Env) (s : Shared) (H : Hp) (E : XK) : Cx where
  prog := P
  w := w
  K := K
  mg := mg
  base := base
  A := A.deeper (PySem.W.ksEnv qual scope s.heap.objs.size f cd cc)
  N := N
  s_0 := s
  H_0 := H
  env := PySem.W.ksEnv qual scope s.heap.objs.size f cd cc
  outer := outer
  stack := PySem.W.ksEnv qual scope s.heap.objs.size f cd cc :: outer
  ex := []
  calm := true
  fn := fun x => !(x == ("__class__" : Str))
  pn := []
  xe := fun e s' => wpAny (model P w) (A.deeper (PySem.W.ksEnv qual scope s.heap.objs.size f cd cc)) (leaving (PySem.W.ksEnv qual scope s.heap.objs.size f cd cc) e) (fun _ s'' => CX outer H s E e s'') (fun e' s'' => CX outer H s E e' s'') s'
theorem fst_zip : ∀ (ps : List Str) (us : List Value), (ps.zip us).map (·.1) = ps.take us.length
  | [], us => by simp
  | p :: ps, [] => rfl
  | p :: ps, u :: us => by
    show p :: (ps.zip us).map (·.1) = p :: ps.take us.length
    rw [fst_zip ps us]
theorem zip_rev {ps : List Str} {us : List Value} (nd : ps.Nodup) {i : Nat} {x : Str} {u : Value} (h1 : ps[i]? = some x) (h2 : us[i]? = some u) : (ps.zip us).reverse.lookup x = some u := by
  have key : ∀ (l : List (Str × Value)), (l.map (·.1)).Nodup → (x, u) ∈ l → l.lookup x = some u := by
    intro l
    induction l with
    | nil => intro _ h; cases h
    | cons p r ih =>
      intro hn hm
      obtain ⟨y, v⟩ := p
      rw [List.map_cons, List.nodup_cons] at hn
      rcases List.mem_cons.mp hm with e | hm2
      · cases e
        simp [List.lookup]
      · have hne : (x == y) = false := by
          rw [beq_eq_false_iff_ne]
          intro e
          refine hn.1 ?_
          rw [← e]
          exact List.mem_map.mpr ⟨(x, u), hm2, rfl⟩
        rw [List.lookup_cons, hne]
        exact ih hn.2 hm2
  refine key _ ?_ ?_
  · rw [List.map_reverse]
    have hs : (ps.zip us).map (·.1) = ps.take us.length := fst_zip ps us
    rw [hs]
    exact List.pairwise_reverse.mpr ((nd.sublist (List.take_sublist _ _)).imp fun h e => h e.symm)
  · rw [List.mem_reverse]
    refine List.mem_of_getElem? (i := i) ?_
    rw [List.getElem?_zip_eq_some]
    exact ⟨h1, h2⟩

section
variable {CX : CXT} {P : Program} {w : World} {K : PySem.W.Frag} {mg : Str → Option Value} {base : Heap} {N ps : List Str} {qual : Str} {scope : Scope} {f : Addr} {cd : Value} {cc : Addr} {A : Around} {outer : List Env} {s : Shared} {H : Hp} {E : XK} {us : List Value} {vs : List V}
theorem inv_sup {params : Arguments} {h0 : Heap} {t0 : Nat} {oc : Obj} {cv : Option Value} (S : SupS ps params scope) (hd : A.handled = none) (e0 : Env0 P w K mg base A outer s H) (hl : vs.length = ps.length) (r : Vals vs us) (hcc : K.lookup cc = some oc) (hcv : oc.data = .cell cv)
    (hns : h0.Ns s.heap.objs.size (fun x => (ps.zip us).reverse.lookup x)) (hk : ∀ b o, s.heap.get? b = some o → h0.get? b = some o) :
    Inv (cxS CX P w K mg base ps qual scope f cd cc A outer s H E) [] (vs.map some) H { s with heap := h0, toks := t0 } := by
  have kb : ∀ b o, K.lookup b = some o → s.heap.get? b = some o ∧ H b = none := fun b o e => e0.bs b o (e0.mod.kin b o e)
  have cells : ∀ x c, (cxS CX P w K mg base ps qual scope f cd cc A outer s H E).env.cells.lookup x = some c → x = "__class__" ∧ c = cc := fun x c h => by
    have h' : ([(("__class__" : Str), cc)] : List (Str × Addr)).lookup x = some c := h
    rw [List.lookup_cons] at h'
    by_cases e : x = ("__class__" : Str)
    · subst e
      rw [beq_self_eq_true] at h'
      exact ⟨rfl, (Option.some.inj h').symm⟩
    · have e2 : (x == ("__class__" : Str)) = false := by rw [beq_eq_false_iff_ne]; exact e
      rw [e2] at h'
      cases h'
  have noA : ∀ b : Addr, b ∉ (cxS CX P w K mg base ps qual scope f cd cc A outer s H E).ex := fun b z => absurd (show b ∈ ([] : List Addr) from z) (by simp)
  refine ⟨⟨e0.mod, S.kind, rfl, rfl, Nat.le_refl _, fun x y c h1 h2 => ?_, fun x hx => ?_, fun x c h1 h2 => ?_, fun _ => hd, Around.frames_deeper e0.frames, .inr ⟨rfl, rfl⟩, fun b z => absurd z (noA b), e0.bs, e0.bsz, fun b _ _ => noA b, fun b z => absurd z (noA b), e0.funs, e0.frf⟩,
    rfl, e0.bare, Un.kept hk, ⟨_, hns, fun i x v h1 h2 h3 => ?_⟩, fun x c h => ?_, e0.hok.fresh (Nat.le_refl _), fun x c h => ?_, fun p hp => absurd (show p ∈ ([] : List (Addr × Obj)) from hp) (by simp), e0.hok.kept hk, ?_⟩
  · rw [(cells x c h1).1, (cells y c h2).1]
  · rcases hx with hx | hx
    · exact absurd hx (S.nocell2 x)
    · rw [S.free x hx]
      exact ⟨cc, rfl⟩
  · rw [(cells x c h2).1] at h1
    exact absurd (show (!((("__class__" : Str) == ("__class__" : Str)))) = true from h1) (by decide +kernel)
  · have hv : vs[i]? = some v := by
      rw [List.getElem?_map] at h2
      cases e : vs[i]? with
      | none => rw [e] at h2; cases h2
      | some a => rw [e] at h2; cases h2; rfl
    obtain ⟨u, hu, rv⟩ := r.get hv
    exact ⟨u, rv, .inl ⟨S.par x (List.mem_of_getElem? h1), zip_rev S.nd h1 hu⟩⟩
  · rw [(cells x c h).2]
    exact ⟨cv, oc, hk _ _ (kb _ _ hcc).1, hcv⟩
  · rw [(cells x c h).2]
    exact (kb _ _ hcc).2
  · rw [List.length_map]
    exact hl

/-- a promise of such an __init__ over its rest (behind super().__init__(text)) -/
theorem fn_sup {params : Arguments} {rest : List Stmt} {name : Str} {fd : FuncData} {k : Nat} {C : Addr} {sp : Sp} {p0 p1 p2 p3 p4 p5 : Pos} {j : Nat} {txt : Str}
    (T : SupT P K mg C f name qual params (.Expr (.Call (.Attribute (.Call (.Name "super" p0) [] [] p1) "__init__" p2) [.Constant (.str txt) j p3] [] p4) p5 :: rest) scope fd) (S : SupS ps params scope)
    (hev : ∀ env : Env, ∃ pl : Sem Bool, eval (.Call (.Attribute (.Call (.Name "super" p0) [] [] p1) "__init__" p2) [.Constant (.str txt) j p3] [] p4) env = (do
      let o ← attributeBase (.Call (.Name "super" p0) [] [] p1) "__init__" env (eval (.Call (.Name "super" p0) [] [] p1) env)
      standAt p2.atName
      let (g, first) ← holding [o] (getMethod o "__init__" pl)
      callWith p4 g first (backTo p4 (starEach [.Constant (.str txt) j p3] env)) []))
    (len : ∀ vs H Q E, sp vs H Q E → vs.length = ps.length) (pre : ∀ vs H Q E, sp vs H Q E → ∃ a ws, vs = V.ref a :: ws ∧ H a = some (exo a C none))
    (hbody : ∀ (cd : Value) (cc : Addr) (A : Around) (outer : List Env) (s : Shared) (H : Hp) (vs : List V) (Q : VK) (E : XK), Room k (A.deeper (PySem.W.ksEnv qual scope s.heap.objs.size f cd cc)) → sp vs H Q E →
      ∃ t, PSs (cxS CX P w K mg base ps qual scope f cd cc A outer s H E) rest t ∧ t { nx := fun _ H' => Q .non H', rt := Q } (vs.map some) H) :
    FnOk P w K mg base CX (k + 1) f fd ps sp := by
  obtain ⟨oc, od, dV, kV, doc, pm, an, cda, ct, osl, cc, ccl, cdd, cvs, ccs, file, tf, cl, cld, csl, cdC, rfl, lk, hcd, lcd, hfv, hfile, lcc, hC⟩ := T.ex
  refine ⟨len, fun A outer s H args us vs Q E hr e0 hb r hsp => ?_⟩
  have hl := len _ _ _ _ hsp
  obtain ⟨a, ws, rfl, hea⟩ := pre _ _ _ _ hsp
  have kst : ∀ b o, base.get? b = some o → s.heap.get? b = some o := fun b o e => (e0.bs b o e).1
  have KX : K.In s.heap := e0.mod.kin.keeps kst
  refine ks_codeAny_call_defAt (binds := ps.zip us) hr.depth (KX _ _ lk) rfl (e0.mod.nolimit.keeps kst) (PySem.W.codeRec_of KX hcd) rfl hb S.nocell (fun y hy => S.par y.1 (List.of_mem_zip hy).1) (fun h0 hns hk => ?_) S.co S.gen S.kind
  have I := inv_sup (CX := CX) (qual := qual) (f := f) (cd := .ref cda) (E := E) (t0 := s.toks + (ps.zip us).length) S hr.hd e0 hl r lcc rfl hns hk
  obtain ⟨ar, hp, hps⟩ := S.hd
  obtain ⟨t, ht, hq⟩ := hbody (.ref cda) cc A outer s H _ Q E (hr.deeper _) hsp
  have KI : K.In h0 := KX.keeps hk
  have hint : interactive (PySem.W.ksEnv qual scope s.heap.objs.size f (.ref cda) cc) = false := by simp [interactive, S.kind]
  obtain ⟨pl, he⟩ := hev (PySem.W.ksEnv qual scope s.heap.objs.size f (.ref cda) cc)
  refine ks_wpAt_execs_cons (ks_wpAt_Expr_any (ks_wpAt_MethodCall (pl := pl) ?_ he) hint)
  refine ks_wpAt_super_base S.sup S.cls (by decide) rfl (KI _ _ lk) rfl hp rfl (KI _ _ lcd) rfl hfv hfile T.top ?_
  obtain ⟨mb, b1, b2⟩ := e0.mod.blt
  refine PySem.W.ks_loadName_global S.kind S.sup (Calls.loadGlobal_builtin ((e0.mod.glob.keeps kst).keeps hk) T.mgS ((b1.keeps kst).keeps hk) ((b2 _ (by decide)).trans (by decide +kernel)) ⟨rfl, ?_⟩)
  refine wpAny_loadName_free S.kind S.cls rfl ⟨_, KI _ _ lcc, rfl⟩ ?_
  have hself : (ps.zip us).reverse.lookup ar.arg = some (.ref a) := by
    cases r with
    | cons r1 r2 =>
      rw [List.head?_eq_getElem?] at hps
      refine zip_rev S.nd hps ?_
      have r1' : _ = Value.ref a := r1
      rw [r1']
      rfl
  have hka : scope.names.lookup ar.arg = some .local := S.par _ (by
    rw [List.head?_eq_getElem?] at hps
    exact List.mem_of_getElem? hps)
  refine wpAny_loadName_local S.kind hka hns hself ?_
  obtain ⟨oD, hD1, hD2⟩ : ∃ oD, h0.get? C = some oD ∧ oD.data = .cls cdC := by
    unfold PySem.W.clsIn at hC
    split at hC
    · rename_i ho
      cases hC
      exact ⟨_, KI _ _ ho, rfl⟩
    · cases hC
  obtain ⟨t1, hxo⟩ := exo_at I.hok hea
  refine ks_wpAny_isType_cls hD1 hD2 ⟨rfl, ?_⟩
  refine ks_wpAny_call_super hD1 hD2 hxo rfl (fun c e => by cases e) (PySem.W.looks_mroIn KI T.sub) (fun h1 hso k1 => ?_)
  have KI1 : K.In h1 := KI.keeps k1
  have hx1 := k1 _ _ hxo
  have In1 : PySem.W.InstAt h1 a _ C none := ⟨hx1, rfl, rfl, trivial⟩
  have hm : PySem.W.alongIn K "__init__" ((cdC.mro.dropWhile (· != .ref C)).drop 1) = some (some (.builtin "ValueError.__init__")) := by
    have z := T.sup
    unfold PySem.W.ks_superIn at z
    rw [hC] at z
    exact z
  refine PySem.W.kxs_getMethod PySem.W.kxs_ValueError hso (PySem.W.looks_opaque KI1 T.tp) (l₀ := cdC.mro) (fun A Q E s k q => wpAny_bind ((PySem.W.looks_clsIn KI1 hC) A _ E s k (wpAny_pure q))) rfl KI1 hm (In1.type.andThen (PySem.W.looks_subIn KI1 T.veC)) (PySem.W.ks_ne KI1 In1 hC) (by decide) ?_
  have k2 : ∀ b o, h0.get? b = some o → (h1.push (PySem.W.kxs_mw "ValueError.__init__" a)).get? b = some o := fun b o e => Heap.get?_push_of_some _ (k1 b o e)
  have I2 := I.kept (h' := h1.push (PySem.W.kxs_mw "ValueError.__init__" a)) (t' := s.toks + (ps.zip us).length + 1) k2
  have hu : (h1.push (PySem.W.kxs_mw "ValueError.__init__" a)).get? h1.objs.size = some (PySem.W.kxs_mw "ValueError.__init__" a) := Heap.get?_push_at rfl rfl
  have hsz : h0.objs.size ≤ h1.objs.size := Nat.le_of_lt (Heap.lt_size hso)
  have hun : H h1.objs.size = none := I.hok.fresh hsz
  have I3 := I2.pins_of (pins' := [(h1.objs.size, PySem.W.kxs_mw "ValueError.__init__" a)]) fun p hp => by
    rw [List.mem_singleton] at hp
    subst hp
    refine ⟨hu, hun, fun z => ?_, I.nofs hsz, fun v z => by cases z⟩
    have z3 : h1.objs.size = s.heap.objs.size := z
    have z4 : s.heap.objs.size < h0.objs.size := I.lt
    rw [← z3] at z4
    exact absurd hsz (Nat.not_le_of_lt z4)
  refine PySem.W.kxs_callWith (i := "ValueError.__init__") (x := a) rfl ?_
  refine Calls.evalArgs_plain ?_
  refine thn ((pa_cons (X := cxS CX P w K mg base ps qual scope f (.ref cda) cc A outer s H E) (pe_str (x := txt) (j := j) (pos := p3)) pa_nil).run p4 _ _ _ _ (fun vs' H' => vs' = [.str txt] ∧ H' = H) I3 ⟨rfl, rfl⟩) fun zs s4 q4 => ?_
  obtain ⟨vs', H', I4, r4, rfl, rfl⟩ := q4
  have hu4 := (I4.pin _ (List.mem_append_right _ (List.mem_singleton.mpr rfl))).1
  refine ⟨hu4, ?_⟩
  obtain ⟨nm, q, N', bs, bm, sn, sub, ab, col, dd, k0, k1', k2', k3', k5, lC, hbm⟩ := T.ox.cls
  obtain ⟨t4, hx4⟩ := exo_at I4.hok hea
  obtain ⟨h4, g4, d4, tk4, os4⟩ := s4
  have hzs : zs.length ≤ sizeLine := by
    rw [← Paired.length r4]
    show 1 ≤ sizeLine
    decide
  have fin : ∀ h', (∀ b o, b ≠ a → h4.get? b = some o → h'.get? b = some o) → h'.get? a = some (PySem.W.excRec (.ref C) h4.objs.size none .none .none (.bool false)) → Inv (cxS CX P w K mg base ps qual scope f (.ref cda) cc A outer s H' E) [] (List.map some (V.ref a :: ws)) H' ⟨h', g4, d4, tk4, os4⟩ := fun h' kk hx => by
    have J := (I4.pins_of (pins' := []) fun p hp => by cases hp).write (t' := tk4) (x := a) (e := a) (o := exo a C none) (by rw [hea]; exact True.intro) (.inl rfl) kk ⟨_, hx⟩ (exo_ok hx)
    have eu : upd H' a (exo a C none) = H' := by
      funext b
      by_cases hb : b = a
      · rw [hb, upd_same, hea]
      · rw [upd_ne hb]
    rw [eu] at J
    exact J
  have FB := F.excBase_ValueError
  refine wpAny_call (codeAny_of_tree ?_); show wpAny _ _ (callAny (.ref h1.objs.size) ⟨zs, []⟩) _ _ _; simp only [callAny]; refine wpAny_bind (wpAny_load hu4 ?_)
  refine PySem.W.KFB.if_so (show (Value.type "method-wrapper" == Value.type "method" || Value.type "method-wrapper" == Value.type "builtin_function_or_method" || Value.type "method-wrapper" == Value.type "method-wrapper") = true by decide) (wpAny_bind (PySem.W.check_bound_init FB.toExcCallFacts (I4.kIn _ _ lC) hx4 rfl (wpAny_bind (wpAny_pure (wpAny_pure ⟨plainId_quiet FB.init.plain _, codeAny_builtin FB.initEntry ?_⟩)))))
  refine PySem.W.exc_init_tree (cls := .ref C) (t0 := t4) (dv := none) (c2 := .none) (c3 := .none) (b4 := .bool false) hx4 hzs fun h5 kk5 hx5 _ => ?_
  have I5 := fin h5 kk5 hx5
  refine wpAt_of_wpAny (wpAny_mono (ht.run [] _ _ _ _ I5 hq) (fun fl s' hs => ?_) fun _ _ z => z)
  cases fl with
  | ret u =>
    obtain ⟨v, σ', H2, J, rv, q⟩ := hs
    exact ⟨v, H2, J.os, J.bare, J.base, J.hok, rv, q⟩
  | next =>
    obtain ⟨σ', H2, J, q⟩ := hs
    exact ⟨.non, H2, J.os, J.bare, J.base, J.hok, rfl, q⟩
  | brk =>
    obtain ⟨_, _, _, q⟩ := hs
    exact False.elim q
  | cont =>
    obtain ⟨_, _, _, q⟩ := hs
    exact False.elim q
end
end Xs

set_option Elab.async false
set_option linter.all false
set_option maxRecDepth 100000
set_option maxHeartbeats 4000000
/-! try with any clauses, each with a name or without -/
namespace Xs
open PySem PySem.Spec PyProof.Rows L2
def goneE (D : Ends) (i : Nat) : Ends := { nx := fun σ H => D.nx (σ.set i none) H, rt := D.rt, bk := fun σ H => D.bk (σ.set i none) H, ct := fun σ H => D.ct (σ.set i none) H }
/-- a clause: its class, its name's slot, its suite -/
structure Cl where
  c : Value
  i : Option Nat
  ts : Addr → Value → Option Addr → TS
def Cl.wish (k : Cl) (D : Ends) (cls : Value) (d : Option Addr) (a : Addr) (σ : L2.St) (H : Hp) : Prop := match k.i with
  | none => k.ts a cls d D σ H
  | some i => k.ts a cls d (goneE D i) (σ.set i (some (.ref a))) H
def wG (K : PySem.W.Frag) (Wout : WX) (D : Ends) : List Cl → WX
  | [] => Wout
  | k :: r => fun cls d σ H => ∃ b, PySem.W.exmOne K cls k.c = some b ∧ (b = true → ∀ a, H a = none → k.wish D cls d a σ H) ∧ (b = false → wG K Wout D r cls d σ H)
inductive ClsOk (X : Cx) : List ExceptHandler → List Cl → Prop
  | nil : ClsOk X [] []
  | bare {x : Str} {c : Value} {ts : Addr → Value → Option Addr → TS} {b0 : Stmt} {suite : List Stmt} {np p : Pos} {hs : List ExceptHandler} {l : List Cl} (hc : Names X x c)
      (hsu : ∀ (a : Addr) (oe : Obj) (cls : Value) (d : Option Addr) (pn : List (Addr × Obj)), Zc cls d oe → (∃ vs, oe.data = .fields vs) → PSs (X.suite a ((a, oe) :: pn)) (b0 :: suite) (ts a cls d)) (r : ClsOk X hs l) :
      ClsOk X (.ExceptHandler (some (.Name x np)) none (b0 :: suite) p :: hs) (⟨c, none, ts⟩ :: l)
  | as {x n : Str} {i : Nat} {c : Value} {ts : Addr → Value → Option Addr → TS} {b0 : Stmt} {suite : List Stmt} {np p : Pos} {hs : List ExceptHandler} {l : List Cl} (hN : X.N.Nodup) (hi : X.N[i]? = some n) (hln : X.env.kindOf n = some .local) (hc : Names X x c)
      (hsu : ∀ (a : Addr) (oe : Obj) (cls : Value) (d : Option Addr) (pn : List (Addr × Obj)), Zc cls d oe → (∃ vs, oe.data = .fields vs) → PSs (X.suite a ((a, oe) :: pn)) (b0 :: suite) (ts a cls d)) (r : ClsOk X hs l) :
      ClsOk X (.ExceptHandler (some (.Name x np)) (some n) (b0 :: suite) p :: hs) (⟨c, some i, ts⟩ :: l)
section
variable {X : Cx}
/-- the exception a is landed in the frame of X: what the clauses do -/
theorem go_clauses {pins : List (Addr × Obj)} {Wout : WX} {D : Ends} {a : Addr} {B : Heap} {sI s' : Shared} {σ : L2.St} {H : Hp} {cls : Value} {d : Option Addr} (hs : X.stack = X.env :: X.outer) (hf : X.env.frame = some X.env.locals) (tk : Takes X Wout) (ok : X.Ok)
    (J : Inv X pins σ H sI) (nb : ∀ b o, sI.heap.get? b = some o → b ∉ frs X.stack → B.get? b = some o) (na : H a = none) (os : s'.os = sI.os) (ag : AllBare s'.gens) {h3 : Heap} (fl3 : HandSPX.FlyingZ B (X.env :: X.outer) a (Zc cls d) h3) (up : sI.heap.UpToSlots h3)
    (nL : a ≠ X.env.locals) (nF : a ∉ X.fs) : ∀ {hds : List ExceptHandler} {l : List Cl}, ClsOk X hds l → wG X.K Wout D l cls d σ H → wpAny (model X.prog X.w) X.A (handleBy (.ref a) X.env hds) (SP X pins D) X.xe { s' with heap := h3 } := by
  intro hds l hk
  obtain ⟨oe3, vs3, he3, hz3, hd3⟩ := fl3.there
  have J3 : Inv X pins σ H { s' with heap := h3 } := J.landed nb fl3.1 up os ag
  have S3 := J3.suite he3 hd3 na nL nF
  have name : ∀ {x : Str} {c : Value} {np : Pos} {Q E : Value → Shared → Prop}, Names X x c → Q c { s' with heap := h3 } → wpAny (model X.prog X.w) (X.A.mark (some (.ref a))) (eval (.Name x np) X.env) Q E { s' with heap := h3 } := fun {x c np Q E} hc q => by
    obtain ⟨hg, hdb, hm | ⟨hm, hv, hn⟩⟩ := hc
    · exact ld_glob (X := X.suite a ((a, oe3) :: (X.pn ++ pins))) S3 hg hm q hdb
    · exact ld_blt (X := X.suite a ((a, oe3) :: (X.pn ++ pins))) S3 hg hm hv q hn hdb
  have LT : PySem.W.Looks (model X.prog X.w) h3 (typeOf (.ref a)) cls := fun A Q E s k q => wpAny_typeOf_ref (k _ _ he3) (by rw [hz3.1]; exact q)
  induction hk with
  | nil =>
    intro w
    refine wpAny_handleBy_nil ?_
    obtain ⟨k1, k2, k3, oe, vs, T, oT, ts', he, hz, hd, h1, hr⟩ := id fl3
    have fin : wpAny (model X.prog X.w) X.A (setFlight (.ref a) X.env.frame) (fun _ s4 => wpAny (model X.prog X.w) X.A (throw (.ref a) : Sem Flow) (SP X pins D) X.xe s4) X.xe { s' with heap := h3 } := by
      rw [hf]
      exact HandSPX.setFlight_upZ fl3 fun h4 hh4 up4 => wpAny_throw (tk _ _ ⟨a, B, sI, pins, σ, H, cls, d, rfl, J, nb, up.trans up4, .inr (.inr (by rw [hs]; exact hh4)), na, os, ag, w⟩)
    unfold PySem.passOn; refine wpAny_bind (wpAny_field he hd h1 ?_); rw [if_neg (show ¬ ((Value.ref T == Value.none) = true) from by simp)]
    first | exact wpAny_bind (wpAny_pure (wpAny_bind fin)) | exact wpAny_bind fin
  | @bare x c ts b0 suite np p hs2 l2 hc hsu r ih =>
    intro w
    obtain ⟨b, hb1, yes, no⟩ := w
    refine wpAny_handleBy_cons (codeAny_handlers_test (name hc ((PySem.W.exm_one (M := model X.prog X.w) J3.kIn LT hb1).here ?_))) (by intro q; cases q)
    cases b with
    | false => exact ih (no rfl)
    | true =>
      refine codeAny_handlers_suite (HandSPX.lands_againZ fl3 fun h4 fl4 up4 => ?_)
      obtain ⟨oe4, vs4, he4, hz4, hd4⟩ := fl4.there
      have J4 : Inv X pins σ H { s' with heap := h4 } := J.landed nb fl4.1 (up.trans up4) os ag
      have S4 := J4.suite he4 hd4 na nL nF
      refine wpAny_mono ((hsu a oe4 cls d (X.pn ++ pins) hz4 ⟨_, hd4⟩).run [] _ _ H _ S4 (yes rfl a na)) (fun fl s6 hsp => ?_) (fun _ _ z => False.elim z)
      cases fl with
      | ret u => obtain ⟨v6, σ6, H6, S6, r6, q6⟩ := hsp; exact ⟨_, _, _, S6.unsuite ok, r6, q6⟩
      | next => obtain ⟨σ6, H6, S6, q6⟩ := hsp; exact ⟨_, _, S6.unsuite ok, q6⟩
      | brk => obtain ⟨σ6, H6, S6, q6⟩ := hsp; exact ⟨_, _, S6.unsuite ok, q6⟩
      | cont => obtain ⟨σ6, H6, S6, q6⟩ := hsp; exact ⟨_, _, S6.unsuite ok, q6⟩
  | @as x n i c ts b0 suite np p hs2 l2 hN hi hln hc hsu r ih =>
    intro w
    obtain ⟨b, hb1, yes, no⟩ := w
    refine wpAny_handleBy_cons (codeAny_handlers_test (name hc ((PySem.W.exm_one (M := model X.prog X.w) J3.kIn LT hb1).here ?_))) (by intro q; cases q)
    cases b with
    | false => exact ih (no rfl)
    | true =>
      refine codeAny_handlers_suite_as (HandSPX.lands_againZ fl3 fun h4 fl4 up4 => ?_)
      obtain ⟨oe4, vs4, he4, hz4, hd4⟩ := fl4.there
      have J4 : Inv X pins σ H { s' with heap := h4 } := J.landed nb fl4.1 (up.trans up4) os ag
      have S4 := J4.suite he4 hd4 na nL nF
      refine store_ok (X := X.suite a ((a, oe4) :: (X.pn ++ pins))) (v := .ref a) S4 hN hi (.inl hln) rfl (fun s5 S5 => ?_) (.inr hln)
      refine wpAny_mono ((hsu a oe4 cls d (X.pn ++ pins) hz4 ⟨_, hd4⟩).run [] s5 _ H _ S5 (yes rfl a na)) (fun fl s6 hsp => ?_) (fun _ _ z => False.elim z)
      cases fl with
      | ret u => obtain ⟨v6, σ6, H6, S6, r6, q6⟩ := hsp; exact gone_ok (S6.unsuite ok) hN hi hln fun s7 J7 => ⟨_, _, _, J7, r6, q6⟩
      | next => obtain ⟨σ6, H6, S6, q6⟩ := hsp; exact gone_ok (S6.unsuite ok) hN hi hln fun s7 J7 => ⟨_, _, J7, q6⟩
      | brk => obtain ⟨σ6, H6, S6, q6⟩ := hsp; exact gone_ok (S6.unsuite ok) hN hi hln fun s7 J7 => ⟨_, _, J7, q6⟩
      | cont => obtain ⟨σ6, H6, S6, q6⟩ := hsp; exact gone_ok (S6.unsuite ok) hN hi hln fun s7 J7 => ⟨_, _, J7, q6⟩
theorem ps_tryG {body : List Stmt} {h0 : ExceptHandler} {hds : List ExceptHandler} {l : List Cl} {pos : Pos} {tb : WX → TS} {Wout : WX} (hs : X.stack = X.env :: X.outer) (hf : X.env.frame = some X.env.locals) (tk : Takes X Wout)
    (hb : ∀ (W : WX) (pn : List (Addr × Obj)) (xe : Value → Shared → Prop), Takes (X.tr pn xe) W → PassesOwn (model X.prog X.w) X.A X.env xe → PSs (X.tr pn xe) body (tb W)) (hh : ClsOk X (h0 :: hds) l) :
    PS X (.Try body (h0 :: hds) [] [] pos) (fun D σ H => tb (wG X.K Wout D l) D σ H) := by
  refine ⟨fun pins s σ H D I h => wpAny_Try_except ?_⟩
  have ok := I.ok
  have hfr : X.A.frames = some (X.env :: X.outer) := by rw [ok.frames, hs]
  refine wpAny_mono ((hb (wG X.K Wout D l) (X.pn ++ pins) _ (fun u s' xx => ?_) PassesOwn.looking).run [] s σ H D (I.toTry _) h) (fun fl s1 hsp => ?_) (fun e s1 he => he)
  · obtain ⟨a, B, sI, pins', σ', H', cls, d, rfl, J', nb, up, sky, na, os, ag, w⟩ := xx
    show wpAny _ _ (noteFrame (.ref a) X.env) _ _ _
    refine Sky.land Zc.steady hfr hf (by rw [← hs]; exact sky) fun h3 fl3 up3 => ?_
    obtain ⟨oe, vs, he, _, hd⟩ := fl3.there
    have nfr : a ∉ frs (X.env :: X.outer) := fun hm => by
      obtain ⟨_, o', e', hnf⟩ := fl3.2.2.1.mem hm
      rw [he] at e'
      cases e'
      exact hnf _ hd
    refine go_clauses hs hf tk ok (J'.ofTry ok) nb na os ag fl3 (up.trans up3) (fun z => nfr (List.mem_filterMap.mpr ⟨X.env, List.mem_cons_self, by rw [hf, z]⟩)) (fun hm => ?_) hh w
    obtain ⟨e, he', q⟩ := List.mem_filterMap.mp hm
    exact nfr (List.mem_filterMap.mpr ⟨e, List.mem_cons_of_mem _ he', q⟩)
  · cases fl with
    | ret u => obtain ⟨v, σ', H', J', r, q⟩ := hsp; exact ⟨v, σ', H', J'.ofTry ok, r, q⟩
    | next => obtain ⟨σ', H', J', q⟩ := hsp; exact wpAny_execs_nil ⟨σ', H', J'.ofTry ok, q⟩
    | brk => obtain ⟨σ', H', J', q⟩ := hsp; exact ⟨σ', H', J'.ofTry ok, q⟩
    | cont => obtain ⟨σ', H', J', q⟩ := hsp; exact ⟨σ', H', J'.ofTry ok, q⟩
end
end Xs

set_option Elab.async false
set_option linter.all false
set_option maxRecDepth 100000
set_option maxHeartbeats 4000000
/-! the classes of errors: __init__(self, f ..): super().__init__(text); self.f = f .. -/
namespace Xs
open PySem L2
theorem upd_swap {H : Hp} {a b : Addr} {o u : HO} (h : a ≠ b) : upd (upd H a o) b u = upd (upd H b u) a o := by
  funext c
  unfold upd
  by_cases h1 : c = a
  · subst h1
    rw [if_neg h, if_pos rfl, if_pos rfl]
  · by_cases h2 : c = b
    · subst h2
      rw [if_pos rfl, if_neg h1, if_pos rfl]
    · rw [if_neg h2, if_neg h1, if_neg h1, if_neg h2]
/-- the promise of such an __init__ -/
def spI (C : Addr) (flds : List Str) : Sp := fun vs H Q _ => ∃ a ws, vs = V.ref a :: ws ∧ ws.length = flds.length ∧ H a = some (exo a C none) ∧ ∀ d, H d = none → d ≠ a → Q .non (upd (upd H d (exd d (flds.zip ws).reverse)) a (exo a C (some d)))
section
variable {CX : CXT} {P : Program} {w : World} {K : PySem.W.Frag} {mg : Str → Option Value} {base : Heap} {name qual : Str} {params : Arguments} {scope : Scope} {fd : FuncData} {C f : Addr} {p0 p1 p2 p3 p4 p5 q1 q2 q3 q4 r1 r2 r3 r4 : Pos} {j : Nat} {txt g1 g2 : Str}
abbrev supSt (p0 p1 p2 p3 p4 p5 : Pos) (txt : Str) (j : Nat) : Stmt := .Expr (.Call (.Attribute (.Call (.Name "super" p0) [] [] p1) "__init__" p2) [.Constant (.str txt) j p3] [] p4) p5
abbrev SupE (p0 p1 p2 p3 p4 : Pos) (txt : Str) (j : Nat) : Prop := ∀ env : Env, ∃ pl : Sem Bool, eval (.Call (.Attribute (.Call (.Name "super" p0) [] [] p1) "__init__" p2) [.Constant (.str txt) j p3] [] p4) env = (do
      let o ← attributeBase (.Call (.Name "super" p0) [] [] p1) "__init__" env (eval (.Call (.Name "super" p0) [] [] p1) env)
      standAt p2.atName
      let (g, first) ← holding [o] (getMethod o "__init__" pl)
      callWith p4 g first (backTo p4 (starEach [.Constant (.str txt) j p3] env)) [])
theorem ok_init1 (T : SupT P K mg C f name qual params [supSt p0 p1 p2 p3 p4 p5 txt j, .Assign [.Attribute (.Name "self" q1) g1 q2] (.Name g1 q3) q4] scope fd) (S : SupS ["self", g1] params scope) (hev : SupE p0 p1 p2 p3 p4 txt j)
    (hno : PySem.W.findIn K (.ref C) g1 = some none) (hd1 : (g1 == ("__debug__" : Str)) = false) (hd2 : (g1 == ("__classdict__" : Str)) = false) : FnOk P w K mg base CX 1 f fd ["self", g1] (spI C [g1]) := by
  refine fn_sup T S hev (fun vs H Q E h => ?_) (fun vs H Q E h => ?_) (fun cd cc A outer s H vs Q E hr h => ?_)
  · obtain ⟨a, ws, rfl, hl, _⟩ := h
    rw [List.length_cons, hl]
    rfl
  · obtain ⟨a, ws, rfl, hl, he, _⟩ := h
    exact ⟨a, ws, rfl, he⟩
  · obtain ⟨a, ws, rfl, hl, he, k⟩ := h
    obtain ⟨y, rfl⟩ : ∃ y, ws = [y] := by
      match ws, hl with
      | [y], _ => exact ⟨y, rfl⟩
    have hs : PE (cxS CX P w K mg base ["self", g1] qual scope f cd cc A outer s H E) (.Name "self" q1) (tVar 0) := pe_var rfl (.inl (S.par _ (by simp))) (by decide) (by decide)
    have hv : PE (cxS CX P w K mg base ["self", g1] qual scope f cd cc A outer s H E) (.Name g1 q3) (tVar 1) := pe_var rfl (.inl (S.par _ (by simp))) hd1 hd2
    refine ⟨_, pss_one (ps_ost hs hv), ?_⟩
    refine ⟨_, rfl, _, rfl, a, C, rfl, T.ox, hno, .inl ⟨he, fun dx h1 h2 => k dx h1 h2⟩⟩
theorem ok_init2 (T : SupT P K mg C f name qual params [supSt p0 p1 p2 p3 p4 p5 txt j, .Assign [.Attribute (.Name "self" q1) g1 q2] (.Name g1 q3) q4, .Assign [.Attribute (.Name "self" r1) g2 r2] (.Name g2 r3) r4] scope fd) (S : SupS ["self", g1, g2] params scope) (hev : SupE p0 p1 p2 p3 p4 txt j)
    (hno : PySem.W.findIn K (.ref C) g1 = some none) (hno2 : PySem.W.findIn K (.ref C) g2 = some none) (hd1 : (g1 == ("__debug__" : Str)) = false) (hd2 : (g1 == ("__classdict__" : Str)) = false) (hd3 : (g2 == ("__debug__" : Str)) = false) (hd4 : (g2 == ("__classdict__" : Str)) = false) :
    FnOk P w K mg base CX 1 f fd ["self", g1, g2] (spI C [g1, g2]) := by
  refine fn_sup T S hev (fun vs H Q E h => ?_) (fun vs H Q E h => ?_) (fun cd cc A outer s H vs Q E hr h => ?_)
  · obtain ⟨a, ws, rfl, hl, _⟩ := h
    rw [List.length_cons, hl]
    rfl
  · obtain ⟨a, ws, rfl, hl, he, _⟩ := h
    exact ⟨a, ws, rfl, he⟩
  · obtain ⟨a, ws, rfl, hl, he, k⟩ := h
    obtain ⟨y, z, rfl⟩ : ∃ y z, ws = [y, z] := by
      match ws, hl with
      | [y, z], _ => exact ⟨y, z, rfl⟩
    have hs : ∀ q, PE (cxS CX P w K mg base ["self", g1, g2] qual scope f cd cc A outer s H E) (.Name "self" q) (tVar 0) := fun q => pe_var rfl (.inl (S.par _ (by simp))) (by decide) (by decide)
    have hv : PE (cxS CX P w K mg base ["self", g1, g2] qual scope f cd cc A outer s H E) (.Name g1 q3) (tVar 1) := pe_var rfl (.inl (S.par _ (by simp))) hd1 hd2
    have hv2 : PE (cxS CX P w K mg base ["self", g1, g2] qual scope f cd cc A outer s H E) (.Name g2 r3) (tVar 2) := pe_var rfl (.inl (S.par _ (by simp))) hd3 hd4
    refine ⟨_, pss_cons (ps_ost (hs q1) hv) (pss_one (ps_ost (hs r1) hv2)), ?_⟩
    refine ⟨_, rfl, _, rfl, a, C, rfl, T.ox, hno, .inl ⟨he, fun dx h1 h2 => ?_⟩⟩
    refine ⟨_, rfl, _, rfl, a, C, rfl, T.ox, hno2, .inr ⟨dx, [(g1, y)], upd_same, ?_, (by show 1 ≤ 900; decide), ?_⟩⟩
    · rw [upd_ne h2, upd_same]
    · have e := k dx h1 h2
      rw [upd_swap (Ne.symm h2), upd_upd]
      exact e
end
/-- an error class, as others use it -/
structure ExT (P : Program) (w : World) (K : PySem.W.Frag) (mg : Str → Option Value) (base : Heap) (x : Str) (C : Addr) (flds : List Str) : Prop where
  gC : mg x = some (.ref C)
  ox : OexC K C
  xf : XfC K C
  no : ∀ f ∈ flds, PySem.W.findIn K (.ref C) f = some none
  ini : ∃ (fI : Addr) (fd : FuncData), PySem.W.findIn K (.ref C) "__init__" = some (some (.ref fI)) ∧ PySem.W.typeIn K (.ref fI) = some (.type "function") ∧ FnOk P w K mg base CX0 1 fI fd ("self" :: flds) (spI C flds) ∧ Binds K fd ("self" :: flds) []
/-- raise X(e, ..): what is asked behind its arguments -/
def RaiseK (C : Addr) (flds : List Str) (W : Value → Option Addr → Hp → Prop) (vs : List V) (H1 : Hp) : Prop := vs.length ≤ 1000 ∧ ∀ a, H1 a = none → spI C flds (.ref a :: (vs ++ [])) (upd H1 a (exo a C none))
  (fun v H2 => v = .non ∧ ∃ (d : Addr) (fs : List (Str × V)), H2 a = some (exo a C (some d)) ∧ H2 d = some (exd d fs) ∧ H1 d = none ∧ W (.ref C) (some d) (upd (del H2 a) d (.xd fs))) (fun _ _ _ => False)
def tRaise (C : Addr) (flds : List Str) (W : WX) (ta : TA) : TS := fun _ σ H => ta σ H fun vs H1 => RaiseK C flds (fun cls d H' => W cls d σ H') vs H1
theorem del_upd {H : Hp} {a d : Addr} {o u v x : HO} (ha : H a = none) (hd : d ≠ a) : upd (del (upd (upd (upd H a o) d u) a v) a) d x = upd H d x := by
  funext b
  by_cases hb : b = d
  · rw [hb, upd_same, upd_same]
  · rw [upd_ne hb, upd_ne hb]
    by_cases h2 : b = a
    · rw [h2, del_same, ha]
    · rw [del_ne h2, upd_ne h2, upd_ne hb, upd_ne h2]
theorem e_raise {C : Addr} {flds : List Str} {W : Value → Option Addr → Hp → Prop} {vs : List V} {H : Hp} (hl : vs.length = flds.length) (hz : flds.length ≤ 900) (h : ∀ d, H d = none → W (.ref C) (some d) (upd H d (.xd (flds.zip vs).reverse))) : RaiseK C flds W vs H := by
  refine ⟨by omega, fun a ha => ⟨a, vs, by rw [List.append_nil], hl, upd_same, fun d hd hda => ⟨rfl, d, (flds.zip vs).reverse, upd_same, ?_, ?_, ?_⟩⟩⟩
  · rw [upd_ne hda, upd_same]
  · rw [upd_ne hda] at hd
    exact hd
  · rw [upd_ne hda] at hd
    rw [del_upd ha hda]
    exact h d hd
theorem ps_raiseX {X : Cx} {x : Str} {C : Addr} {flds : List Str} {W : WX} {k : Nat} {e : Expr} {es : List Expr} {ta : TA} {p pos pos' : Pos} (T : ExT X.prog X.w X.K X.mg X.base x C flds) (hr : Room k X.A) (h2k : 2 ≤ k) (hc : X.calm = true) (tk : Takes X W) (hg : Gl X x) (ha : PA X (e :: es) ta)
    (hdb : (x == ("__debug__" : Str)) = false := by decide) (he : starEach (e :: es) X.env = (false, eval e X.env) :: starEach es X.env := by rfl) (hpl : (backTo pos (starEach es X.env)).any (·.1) = false := by rfl) :
    PS X (.Raise (some (.Call (.Name x p) (e :: es) [] pos)) none pos') (tRaise C flds W ta) := by
  obtain ⟨fI, fd, h1, h2, h3, h4⟩ := T.ini
  exact ps_raise (pos := pos') hc tk (pmk_oex (p := p) (pos := pos) T.ox h1 h2 h3 (hr.mono h2k) h4 .nil pass0 hg T.gC ha hdb he hpl)
end Xs

set_option Elab.async false
set_option linter.all false
set_option maxRecDepth 100000
set_option maxHeartbeats 4000000
/-! calls, methods, makings whose errors are wished for at the slots; operators of own classes -/
namespace Ow
open PySem PySem.Spec PyProof.Rows L2
abbrev Cxx (P : Program) (w : World) : CXT := L2.CX P w
/-- a def at f, called by values -/
abbrev Fr (P : Program) (w : World) (K : PySem.W.Frag) (mg : Str → Option Value) (base : Heap) (k : Nat) (f : Addr) (sp : Sp) : Prop := FnR P w K mg base (Cxx P w) k f sp
section
variable {X : Cx} {pins : List (Addr × Obj)} {σ : L2.St} {H : Hp} {s : Shared} {Q : VK} {us : List Value} {vs : List V} {j k : Nat} {f C : Addr} {sp : Sp} {W : WX} {A : Around}
/-- the callee runs, around A -/
theorem runW (F : Fr X.prog X.w X.K X.mg X.base k f sp) (hr : Room k A) (e0 : Env0 X.prog X.w X.K X.mg X.base A X.stack s H) (tk : Takes X W) (I : Inv X pins σ H s) (r : Vals vs us) (h : sp vs H Q (WE W σ)) :
    wpAny (model X.prog X.w) A (call (.ref f) us) (EP X pins σ Q) X.xe s := by
  refine wpAny_call (codeAny_mono (F A X.stack s H us vs Q (WE W σ) hr e0 r h) fun res s' hq => ?_)
  cases res with
  | error e => exact passAt tk σ pins H s e s' I hq
  | ok fl =>
    cases fl with
    | ret u => exact I.after hq
    | next => exact False.elim hq
    | brk => exact False.elim hq
    | cont => exact False.elim hq
theorem makeW (M : Mk X.K C f) (F : Fr X.prog X.w X.K X.mg X.base k f sp) (hr : Room (k + 1) X.A) (tk : Takes X W) (I : Inv X pins σ H s) (r : Vals vs us)
    (h : ∀ x dx, H x = none → H dx = none → dx ≠ x → sp (.ref x :: vs) (upd (upd H dx (.own x)) x (.ins C dx [])) (fun v H2 => v = .non ∧ Q (.ref x) H2) (WE W σ)) :
    wpAny (model X.prog X.w) X.A (call (.ref C) us) (EP X pins σ Q) X.xe s := by
  have hq := h (s.heap.objs.size + 1) s.heap.objs.size (I.hok.fresh (Nat.le_succ _)) (I.hok.fresh (Nat.le_refl _)) (Nat.ne_of_lt (Nat.lt_succ_self _))
  have I2 := Inv.made (C := C) I
  have r2 : Vals (V.ref (s.heap.objs.size + 1) :: vs) (Value.ref (s.heap.objs.size + 1) :: us) := .cons rfl r
  refine wpAny_call (make_map (f := f) I.kIn M.makes M.init (beq_iff_eq.mp M.fn) (codeAny_mono (F _ X.stack _ _ (Value.ref (s.heap.objs.size + 1) :: us) _ _ (WE W σ) (hr.make C us []) (I2.env0.make C us []) r2 hq) fun res s' hq' => ?_))
  cases res with
  | error e => exact passAt tk σ pins _ _ e s' I2 hq'
  | ok fl =>
    cases fl with
    | ret u =>
      obtain ⟨v, H', I3, rv, ev, q3⟩ := I2.after hq'
      subst ev
      exact ⟨rv, ⟨V.ref (s.heap.objs.size + 1), H', I3, rfl, q3⟩⟩
    | next => exact False.elim hq'
    | brk => exact False.elim hq'
    | cont => exact False.elim hq'
end
/-! ### readings -/
def tCallW (sp : Sp) (W : WX) (t : TA) : TE := fun σ H Q => t σ H fun vs H1 => sp vs H1 Q (WE W σ)
def tMethW (C : Addr) (m : Str) (sp : Sp) (W : WX) (ta : TE) (t : TA) : TE := fun σ H Q => ta σ H fun x H1 => ∃ a dx fs, x = .ref a ∧ H1 a = some (.ins C dx fs) ∧ fs.lookup m = none ∧ t σ H1 fun vs H2 => sp (x :: vs) H2 Q (WE W σ)
def MakeK (C : Addr) (sp : Sp) (E : XK) (Q : VK) (vs : List V) (H : Hp) : Prop := ∀ x dx, H x = none → H dx = none → dx ≠ x → sp (.ref x :: vs) (upd (upd H dx (.own x)) x (.ins C dx [])) (fun v H2 => v = .non ∧ Q (.ref x) H2) E
def tMakeW (C : Addr) (sp : Sp) (W : WX) (t : TA) : TE := fun σ H Q => t σ H fun vs H1 => MakeK C sp (WE W σ) Q vs H1
section
variable {X : Cx} {j k : Nat} {f C : Addr} {sp : Sp} {W : WX} {x m : Str} {p pos apos : Pos} {e o : Expr} {es : List Expr} {ta : TE} {t : TA}
theorem pe_callW (F : Fr X.prog X.w X.K X.mg X.base k f sp) (hm : X.mg x = some (.ref f)) (hk : PySem.W.keepIn X.K (.ref f) = true) (hr : Room j X.A) (hj : k ≤ j) (hg : Gl X x) (tk : Takes X W) (ha : PA X (e :: es) t)
    (hdb : (x == ("__debug__" : Str)) = false := by decide) (he : starEach (e :: es) X.env = (false, eval e X.env) :: starEach es X.env := by rfl) (hpl : (backTo pos (starEach es X.env)).any (·.1) = false := by rfl) :
    PE X (.Call (.Name x p) (e :: es) [] pos) (tCallW sp W t) := ⟨fun pins s σ H Q I h => wpAny_Call_Name_kw (ld_glob I hg hm (PySem.W.callWith_K (h₀ := X.base) I.ok.mod.kin hk (thn (ha.run pos pins s σ H _ I h) fun us s1 hh => by
      obtain ⟨vs, H1, I1, r, q⟩ := hh
      exact ⟨I1.kIn, runW F (hr.mono hj) I1.env0 tk I1 r q⟩) he hpl) hdb)⟩
theorem pe_callW0 (F : Fr X.prog X.w X.K X.mg X.base k f sp) (hm : X.mg x = some (.ref f)) (hk : PySem.W.keepIn X.K (.ref f) = true) (hr : Room j X.A) (hj : k ≤ j) (hg : Gl X x) (tk : Takes X W) (hdb : (x == ("__debug__" : Str)) = false := by decide) :
    PE X (.Call (.Name x p) [] [] pos) (tCallW sp W tNil) := ⟨fun pins s σ H Q I h => wpAny_Call_Name_kw (ld_glob I hg hm (PySem.W.callWith_K0 I.kIn hk (runW F (hr.mono hj) I.env0 tk I .nil h)) hdb)⟩
theorem pe_makeW (M : Mk X.K C f) (F : Fr X.prog X.w X.K X.mg X.base k f sp) (hm : X.mg x = some (.ref C)) (hr : Room j X.A) (hj : k + 1 ≤ j) (hg : Gl X x) (tk : Takes X W) (ha : PA X (e :: es) t)
    (hdb : (x == ("__debug__" : Str)) = false := by decide) (he : starEach (e :: es) X.env = (false, eval e X.env) :: starEach es X.env := by rfl) (hpl : (backTo pos (starEach es X.env)).any (·.1) = false := by rfl) :
    PE X (.Call (.Name x p) (e :: es) [] pos) (tMakeW C sp W t) := ⟨fun pins s σ H Q I h => wpAny_Call_Name_kw (ld_glob I hg hm (PySem.W.callWith_K (h₀ := X.base) I.ok.mod.kin M.kp (thn (ha.run pos pins s σ H _ I h) fun us s1 hh => by
      obtain ⟨vs, H1, I1, r, q⟩ := hh
      exact ⟨I1.kIn, makeW M F (hr.mono hj) tk I1 r q⟩) he hpl) hdb)⟩
theorem pe_methW {pl : Sem Bool} (he : PE X o ta) (c : Cls X.K C) (hm : Meth X.K C m f) (F : Fr X.prog X.w X.K X.mg X.base k f sp) (hr : Room j X.A) (hj : k ≤ j) (tk : Takes X W) (ha : PA X (e :: es) t)
    (hst : starEach (e :: es) X.env = (false, eval e X.env) :: starEach es X.env := by rfl) (hpl : (backTo pos (starEach es X.env)).any (·.1) = false := by rfl)
    (ht : eval (.Call (.Attribute o m apos) (e :: es) [] pos) X.env = (do
      let v ← eval o X.env
      standAt apos.atName
      let (g, first) ← holding [v] (getMethod v m pl)
      callWith pos g first (backTo pos (starEach (e :: es) X.env)) (backToKw pos (keywordEach [] X.env))) := by rfl) :
    PE X (.Call (.Attribute o m apos) (e :: es) [] pos) (tMethW C m sp W ta t) := ⟨fun pins s σ H Q I h => PySem.W.methodCall_KW (pl := pl) (thn (he.run pins s σ H _ I h) fun u s1 hh => by
      obtain ⟨x, H1, I1, rx, a, dx, fs, rfl, ea, l, q⟩ := hh
      obtain rfl : u = Value.ref a := rx
      exact getmeth_ok I1 ea c hm l (PySem.W.callWith_K (first := [.ref a]) (h₀ := X.base) I.ok.mod.kin hm.kp (thn (ha.run pos pins s1 σ H1 _ I1 q) fun us s2 h2 => by
        obtain ⟨vs, H2, I2, r, q2⟩ := h2
        exact ⟨I2.kIn, runW (vs := .ref a :: vs) F (hr.mono hj) I2.env0 tk I2 (.cons rfl r) q2⟩) hst hpl)) ht⟩
theorem pe_methW0 {pl : Sem Bool} (he : PE X o ta) (c : Cls X.K C) (hm : Meth X.K C m f) (F : Fr X.prog X.w X.K X.mg X.base k f sp) (hr : Room j X.A) (hj : k ≤ j) (tk : Takes X W)
    (ht : eval (.Call (.Attribute o m apos) [] [] pos) X.env = (do
      let v ← eval o X.env
      standAt apos.atName
      let (g, first) ← holding [v] (getMethod v m pl)
      callWith pos g first (backTo pos (starEach [] X.env)) (backToKw pos (keywordEach [] X.env))) := by rfl) :
    PE X (.Call (.Attribute o m apos) [] [] pos) (tMethW C m sp W ta tNil) := ⟨fun pins s σ H Q I h => PySem.W.methodCall_KW (pl := pl) (thn (he.run pins s σ H _ I h) fun u s1 hh => by
      obtain ⟨x, H1, I1, rx, a, dx, fs, rfl, ea, l, q⟩ := hh
      obtain rfl : u = Value.ref a := rx
      exact getmeth_ok I1 ea c hm l (PySem.W.callWith_K0 (first := [.ref a]) I1.kIn hm.kp (runW (vs := [.ref a]) F (hr.mono hj) I1.env0 tk I1 (.cons rfl .nil) q))) ht⟩
end
/-! ### operators of own classes -/
/-- a special method of the class at C: its def at f -/
structure Spec (K : PySem.W.Frag) (C : Addr) (m : Str) (f : Addr) : Prop where
  at_ : PySem.W.findIn K (.ref C) m = some (some (.ref f))
  fn : PySem.W.isFn K (.ref f) = true
def tNegW (C : Addr) (sp : Sp) (W : WX) (ta : TE) : TE := fun σ H Q => ta σ H fun x H1 => ∃ a dx fs, x = .ref a ∧ H1 a = some (.ins C dx fs) ∧ sp [.ref a] H1 Q (WE W σ)
/-- not NotImplemented: every value of V is fine -/
def tBinW (C : Addr) (sp : Sp) (W : WX) (ta tb : TE) : TE := fun σ H Q => ta σ H fun x H1 => tb σ H1 fun y H2 => ∃ a b dx dy fs gs, x = .ref a ∧ y = .ref b ∧ H2 a = some (.ins C dx fs) ∧ H2 b = some (.ins C dy gs) ∧ sp [.ref a, .ref b] H2 (fun v H3 => (∃ c, v = .ref c) ∧ Q v H3) (WE W σ)
/-- a == b, a of the own class -/
def rEqO (K : PySem.W.Frag) (C : Addr) (sp : Sp) : R2 := fun x y H Q => ∃ a dx fs tb, x = .ref a ∧ H a = some (.ins C dx fs) ∧ TyX K H y tb ∧ PySem.W.notFirst K C tb = true ∧ sp [.ref a, y] H (fun v H' => (∃ b, v = .bl b) ∧ Q v H') E0
/-- a in b, b of the own class -/
def rInO (C : Addr) (sp : Sp) : R2 := fun x y H Q => ∃ a dx fs, y = .ref a ∧ H a = some (.ins C dx fs) ∧ sp [.ref a, x] H (fun v H' => (∃ b, v = .bl b) ∧ Q v H') E0
def rNotInO (C : Addr) (sp : Sp) : R2 := fun x y H Q => ∃ a dx fs, y = .ref a ∧ H a = some (.ins C dx fs) ∧ sp [.ref a, x] H (fun v H' => ∃ b, v = .bl b ∧ Q (.bl !b) H') E0
section
variable {X : Cx} {CX : CXT} {pins : List (Addr × Obj)} {σ : L2.St} {H : Hp} {s : Shared} {j k : Nat} {f C a dx : Addr} {fs : List (Str × V)} {sp : Sp} {W : WX} {pos : Pos} {ea eb : Expr} {ta tb : TE}
theorem inst_of (I : Inv X pins σ H s) (e : H a = some (.ins C dx fs)) : ∃ ox od, PySem.W.InstAt s.heap a ox C (some od) := by
  obtain ⟨mA, O, _⟩ := ins_get I.hok e
  obtain ⟨od, J, _⟩ := O.look
  exact ⟨_, od, J⟩
theorem pe_negW (S : Spec X.K C "__neg__" f) (F : Fr X.prog X.w X.K X.mg X.base k f sp) (hr : Room j X.A) (hj : k ≤ j) (tk : Takes X W) (ha : PE X ea ta) : PE X (.UnaryOp .USub ea pos) (tNegW C sp W ta) := by
  refine ⟨fun pins s σ H Q I h => ?_⟩
  refine UnaryOp_ (thn (ha.run pins s σ H _ I h) fun u s1 hh => ?_)
  obtain ⟨x, H1, I1, rx, a, dx, fs, rfl, e, q⟩ := hh
  obtain rfl : u = Value.ref a := rx
  obtain ⟨ox, od, J⟩ := inst_of I1 e
  obtain ⟨m, fr⟩ := I1.fr
  exact PySem.W.ksp_neg fr I1.ok.mod.kin J S.at_ S.fn (runW (vs := [.ref a]) F (hr.mono hj) I1.env0 tk I1 (.cons rfl .nil) q)
theorem pe_binW {op : Operator} (S : Spec X.K C (PySem.dunder op.info.2) f) (hc : PySem.W.selfFirst X.K C = true) (F : Fr X.prog X.w X.K X.mg X.base k f sp) (hr : Room j X.A) (hj : k ≤ j) (tk : Takes X W) (ha : PE X ea ta) (hb : PE X eb tb) :
    PE X (.BinOp ea op eb pos) (tBinW C sp W ta tb) := by
  refine ⟨fun pins s σ H Q I h => ?_⟩
  refine wpAny_BinOp (binT ha hb I h fun v u s2 x y H2 I2 rx ry q => ?_)
  obtain ⟨a, b, dx, dy, fs, gs, rfl, rfl, e1, e2, q2⟩ := q
  obtain rfl : v = Value.ref a := rx
  obtain rfl : u = Value.ref b := ry
  obtain ⟨ox, od, J⟩ := inst_of I2 e1
  obtain ⟨oy, oe, J2⟩ := inst_of I2 e2
  obtain ⟨m, fr⟩ := I2.fr
  refine PySem.W.binop_K fr I2.ok.mod.kin J J2.type hc S.at_ S.fn (thn (runW (vs := [.ref a, .ref b]) F (hr.mono hj) I2.env0 tk I2 (.cons rfl (.cons rfl .nil)) q2) fun r s3 z => ?_)
  obtain ⟨v3, H3, I3, r3, ⟨c, rfl⟩, q3⟩ := z
  obtain rfl : r = Value.ref c := r3
  exact ⟨.ref c, _, I3, rfl, q3⟩
theorem op_eqO (K : PySem.W.Frag) (S : Spec X.K C "__eq__" f) (F : FnR X.prog X.w X.K X.mg X.base CX k f sp) (hx : Passes CX X E0) (hr : Room j X.A) (hj : k ≤ j) (hK : X.K = K := by rfl) : OpR X (compareOp .Eq) (rEqO K C sp) := by
  subst hK
  intro pins s σ H x y v u Q I rx ry h
  obtain ⟨a, dx, fs, tb, rfl, e, ty, hn, q⟩ := h
  obtain rfl : v = Value.ref a := rx
  obtain ⟨ox, od, J⟩ := inst_of I e
  obtain ⟨m, fr⟩ := I.fr
  obtain ⟨Pq, kx, hp, _⟩ := kit_of I ry ty
  refine PySem.W.cmp_ofEq (PySem.W.cmp_K hr.units0 fr I.ok.mod.kin J (kx.ty _ _ I.kIn hp) hn S.at_ S.fn (wpAny_call (codeAny_mono (run_fnR (us := [.ref a, u]) (vs := [.ref a, y]) F (hr.mono hj) hx I (.cons rfl (.cons ry .nil)) q) fun r s3 z => ?_)))
  cases r with
  | error e => exact z
  | ok fl =>
    cases fl with
    | ret w =>
      obtain ⟨v3, H3, I3, r3, ⟨b, rfl⟩, q3⟩ := z
      obtain rfl : w = Value.bool b := r3
      exact ⟨.bl b, _, I3, rfl, q3⟩
    | next => exact False.elim z
    | brk => exact False.elim z
    | cont => exact False.elim z
theorem op_inO (S : Spec X.K C "__contains__" f) (F : FnR X.prog X.w X.K X.mg X.base CX k f sp) (hx : Passes CX X E0) (hr : Room j X.A) (hj : k ≤ j) : OpR X (compareOp .In) (rInO C sp) := by
  intro pins s σ H x y v u Q I rx ry h
  obtain ⟨a, dx, fs, rfl, e, q⟩ := h
  obtain rfl : u = Value.ref a := ry
  obtain ⟨ox, od, J⟩ := inst_of I e
  obtain ⟨m, fr⟩ := I.fr
  refine PySem.W.in_K fr I.ok.mod.kin J S.at_ S.fn (wpAny_call (codeAny_mono (run_fnR (us := [.ref a, v]) (vs := [.ref a, x]) F (hr.mono hj) hx I (.cons rfl (.cons rx .nil)) q) fun r s3 z => ?_))
  cases r with
  | error e => exact z
  | ok fl =>
    cases fl with
    | ret w =>
      obtain ⟨v3, H3, I3, r3, ⟨b, rfl⟩, q3⟩ := z
      obtain rfl : w = Value.bool b := r3
      exact wpAny_truthy_bool ⟨.bl b, _, I3, rfl, q3⟩
    | next => exact False.elim z
    | brk => exact False.elim z
    | cont => exact False.elim z
theorem op_notInO (S : Spec X.K C "__contains__" f) (F : FnR X.prog X.w X.K X.mg X.base CX k f sp) (hx : Passes CX X E0) (hr : Room j X.A) (hj : k ≤ j) : OpR X (compareOp .NotIn) (rNotInO C sp) := by
  intro pins s σ H x y v u Q I rx ry h
  obtain ⟨a, dx, fs, rfl, e, q⟩ := h
  obtain rfl : u = Value.ref a := ry
  obtain ⟨ox, od, J⟩ := inst_of I e
  obtain ⟨m, fr⟩ := I.fr
  refine PySem.W.notIn_K fr I.ok.mod.kin J S.at_ S.fn (wpAny_call (codeAny_mono (run_fnR (us := [.ref a, v]) (vs := [.ref a, x]) F (hr.mono hj) hx I (.cons rfl (.cons rx .nil)) q) fun r s3 z => ?_))
  cases r with
  | error e => exact z
  | ok fl =>
    cases fl with
    | ret w =>
      obtain ⟨v3, H3, I3, r3, b, rfl, q3⟩ := z
      obtain rfl : w = Value.bool b := r3
      exact wpAny_truthy_bool ⟨.bl !b, _, I3, rfl, q3⟩
    | next => exact False.elim z
    | brk => exact False.elim z
    | cont => exact False.elim z
end
/-! ### by keywords; of the class -/
/-- a def at f, called by n values and the keywords ks -/
def FrK (P : Program) (w : World) (K : PySem.W.Frag) (mg : Str → Option Value) (base : Heap) (k : Nat) (f : Addr) (n : Nat) (ks : List Str) (gV : List V → List V → List V) (sp : Sp) : Prop :=
  ∀ (A : Around) (outer : List Env) (s : Shared) (H : Hp) (us ws : List Value) (vs zs : List V) (Q : VK) (E : XK), Room k A → Env0 P w K mg base A outer s H → Vals vs us → Vals zs ws → vs.length = n → zs.length = ks.length → sp (gV vs zs) H Q E →
    codeAny (model P w) A (.call (.ref f) ⟨us, ks.zip ws⟩) (CR (Cxx P w) outer P w H s Q E) s
theorem frK_of {P : Program} {w : World} {K : PySem.W.Frag} {mg : Str → Option Value} {base : Heap} {k n : Nat} {f : Addr} {fd : FuncData} {ps ks : List Str} {g : List Value → List Value → List Value} {gV : List V → List V → List V} {sp : Sp} (F : FnOk P w K mg base (Cxx P w) k f fd ps sp) (hb : KBn K fd ps n ks g gV) :
    FrK P w K mg base k f n ks gV sp := fun A outer s H us ws vs zs Q E hr e0 r rz l1 l2 h =>
  F.run A outer s H ⟨us, ks.zip ws⟩ (g us ws) (gV vs zs) Q E hr e0 (hb.to s us ws (e0.mod.kin.keeps fun b o e => (e0.bs b o e).1) (r.length.symm.trans l1) (rz.length.symm.trans l2)) (hb.rel r rz) h
def MakeG (C : Addr) (sp : Sp) (gV : List V → List V → List V) (E : XK) (Q : VK) (zs : List V) (H : Hp) : Prop := ∀ x dx, H x = none → H dx = none → dx ≠ x → sp (gV [.ref x] zs) (upd (upd H dx (.own x)) x (.ins C dx [])) (fun v H3 => v = .non ∧ Q (.ref x) H3) E
theorem makeG_of {C : Addr} {sp : Sp} {gV : List V → List V → List V} {E : XK} {Q : VK} {zs vs : List V} {H : Hp} (e : ∀ x : Addr, gV [.ref x] zs = V.ref x :: vs) (h : MakeK C sp E Q vs H) : MakeG C sp gV E Q zs H := fun x dx h1 h2 h3 => by
  rw [e x]
  exact h x dx h1 h2 h3
def tMakeKW (C : Addr) (m : Nat) (sp : Sp) (gV : List V → List V → List V) (W : WX) (tk : TA) : TE := fun σ H Q => tk σ H fun zs H2 => zs.length = m ∧ MakeG C sp gV (WE W σ) Q zs H2
def tCMethW (C : Addr) (sp : Sp) (W : WX) (ta : TE) (t : TA) : TE := fun σ H Q => ta σ H fun x H1 => x = .ref C ∧ t σ H1 fun vs H2 => sp (.ref C :: vs) H2 Q (WE W σ)
def tCMethKW (C : Addr) (m : Nat) (sp : Sp) (gV : List V → List V → List V) (W : WX) (ta : TE) (t : TA) : TE := fun σ H Q => ta σ H fun x H1 => x = .ref C ∧ t σ H1 fun zs H2 => zs.length = m ∧ sp (gV [.ref C] zs) H2 Q (WE W σ)
def tMakeLW (i : Nat) (C : Addr) (sp : Sp) (W : WX) (t : TA) : TE := fun σ H Q => σ[i]? = some (some (.ref C)) ∧ t σ H fun vs H1 => MakeK C sp (WE W σ) Q vs H1
section
variable {X : Cx} {pins : List (Addr × Obj)} {σ : L2.St} {H : Hp} {s : Shared} {Q : VK} {j k i : Nat} {f C p g : Addr} {sp : Sp} {W : WX} {x m : Str} {mc : Value} {p0 pos apos : Pos} {e o : Expr} {es : List Expr} {ta : TE} {t : TA} {ks : List Str} {gV : List V → List V → List V} {kws : List Keyword} {tkw : TA} {pl : Sem Bool}
theorem makeKW {zs : List V} {ws : List Value} (M : Mk X.K C f) (F : FrK X.prog X.w X.K X.mg X.base k f 1 ks gV sp) (hr : Room (k + 1) X.A) (tk : Takes X W) (I : Inv X pins σ H s) (rz : Vals zs ws) (l2 : zs.length = ks.length)
    (h : ∀ x dx, H x = none → H dx = none → dx ≠ x → sp (gV [.ref x] zs) (upd (upd H dx (.own x)) x (.ins C dx [])) (fun v H2 => v = .non ∧ Q (.ref x) H2) (WE W σ)) :
    wpAny (model X.prog X.w) X.A (call (.ref C) [] (ks.zip ws)) (EP X pins σ Q) X.xe s := by
  have hq := h (s.heap.objs.size + 1) s.heap.objs.size (I.hok.fresh (Nat.le_succ _)) (I.hok.fresh (Nat.le_refl _)) (Nat.ne_of_lt (Nat.lt_succ_self _))
  have I2 := Inv.made (C := C) I
  have r2 : Vals [V.ref (s.heap.objs.size + 1)] [Value.ref (s.heap.objs.size + 1)] := .cons rfl .nil
  refine wpAny_call (make_map (f := f) I.kIn M.makes M.init (beq_iff_eq.mp M.fn) (codeAny_mono (F _ X.stack _ _ [Value.ref (s.heap.objs.size + 1)] ws _ zs _ (WE W σ) (hr.make C [] (ks.zip ws)) (I2.env0.make C [] (ks.zip ws)) r2 rz rfl l2 hq) fun res s' hq' => ?_))
  cases res with
  | error e => exact passAt tk σ pins _ _ e s' I2 hq'
  | ok fl =>
    cases fl with
    | ret u =>
      obtain ⟨v, H', I3, rv, ev, q3⟩ := I2.after hq'
      subst ev
      exact ⟨rv, ⟨V.ref (s.heap.objs.size + 1), H', I3, rfl, q3⟩⟩
    | next => exact False.elim hq'
    | brk => exact False.elim hq'
    | cont => exact False.elim hq'
theorem pe_makeKW (M : Mk X.K C f) (F : FrK X.prog X.w X.K X.mg X.base k f 1 ks gV sp) (hm : X.mg x = some (.ref C)) (hr : Room j X.A) (hj : k + 1 ≤ j) (hg : Gl X x) (tk : Takes X W) (hkw : PK X kws tkw)
    (hall : (backToKw pos (keywordEach kws X.env)).all (·.1.isSome) = true := by rfl) (hks : (backToKw pos (keywordEach kws X.env)).filterMap (·.1) = ks := by rfl) (hdb : (x == ("__debug__" : Str)) = false := by decide)
    (hpl : ((backTo pos (starEach [] X.env)).any (·.1) || (backToKw pos (keywordEach kws X.env)).any (·.1.isNone)) = false := by rfl) : PE X (.Call (.Name x p0) [] kws pos) (tMakeKW C ks.length sp gV W tkw) :=
  ⟨fun pins s σ H Q I h => wpAny_Call_Name_kw (ld_glob I hg hm (PySem.W.callWith_KW0 (h₀ := X.base) I.ok.mod.kin M.kp hall (thn (hkw.run pos pins s σ H _ I h) fun ws s2 hh => by
    obtain ⟨zs, H2, I2, rz, l2, q2⟩ := hh
    refine ⟨I2.kIn, ?_⟩
    rw [hks]
    exact makeKW M F (hr.mono hj) tk I2 rz l2 q2) hpl) hdb)⟩
/-- cls(e, ..), the slot i holds the class at C -/
theorem pe_makeLW (M : Mk X.K C f) (F : Fr X.prog X.w X.K X.mg X.base k f sp) (hN : X.N[i]? = some x) (hv : Vis X.env.scope x) (hr : Room j X.A) (hj : k + 1 ≤ j) (tk : Takes X W) (ha : PA X (e :: es) t)
    (hdb : (x == ("__debug__" : Str)) = false := by decide) (hcd : (x == ("__classdict__" : Str)) = false := by decide) (he : starEach (e :: es) X.env = (false, eval e X.env) :: starEach es X.env := by rfl) (hpl : (backTo pos (starEach es X.env)).any (·.1) = false := by rfl) :
    PE X (.Call (.Name x p0) (e :: es) [] pos) (tMakeLW i C sp W t) := by
  refine ⟨fun pins s σ H Q I h => ?_⟩
  obtain ⟨hs, ht⟩ := h
  refine wpAny_Call_Name_kw (thn ((pe_var (pos := p0) hN hv hdb hcd).run pins s σ H (fun v H1 => v = .ref C ∧ H1 = H) I ⟨.ref C, hs, rfl, rfl⟩) fun u s1 ⟨v, H1, I1, r1, q1⟩ => ?_)
  obtain ⟨rfl, rfl⟩ := q1
  cases r1
  refine PySem.W.callWith_K (h₀ := X.base) I.ok.mod.kin M.kp (thn (ha.run pos pins s1 σ _ _ I1 ht) fun us s2 ⟨vs, H2, I2, r, q⟩ => ⟨I2.kIn, ?_⟩) he hpl
  exact makeW M F (hr.mono hj) tk I2 r q
theorem pe_cmethW (he : PE X o ta) (r : ClX.CRead X.K C mc) (c : ClX.CMet X.K C mc m p g) (F : Fr X.prog X.w X.K X.mg X.base k g sp) (hr : Room j X.A) (hj : k ≤ j) (tk : Takes X W) (ha : PA X (e :: es) t)
    (hst : starEach (e :: es) X.env = (false, eval e X.env) :: starEach es X.env := by rfl) (hpl : (backTo pos (starEach es X.env)).any (·.1) = false := by rfl)
    (ht : eval (.Call (.Attribute o m apos) (e :: es) [] pos) X.env = (do
      let v ← eval o X.env
      standAt apos.atName
      let (f1, first) ← holding [v] (getMethod v m pl)
      callWith pos f1 first (backTo pos (starEach (e :: es) X.env)) (backToKw pos (keywordEach [] X.env))) := by rfl) : PE X (.Call (.Attribute o m apos) (e :: es) [] pos) (tCMethW C sp W ta t) := by
  refine ⟨fun pins s σ H Q I h => PySem.W.methodCall_KW (pl := pl) (thn (he.run pins s σ H _ I h) fun u s1 hh => ?_) ht⟩
  obtain ⟨x, H1, I1, rx, rfl, q⟩ := hh
  obtain rfl : u = Value.ref C := rx
  refine ClX.getmethcm_ok I1 r c fun s2 I2 => ClX.callwith_cm I2 (ClX.base_none I1 (Nat.le_refl _)) c.fi (thn (ha.run pos _ s2 σ H1 _ I2 q) fun us s3 h3 => ?_) hst hpl
  obtain ⟨vs, H2, I3, rv, q2⟩ := h3
  refine ⟨⟨ClX.pin_at I3, I3.kIn⟩, thn (wpAny_call (PySem.W.method_call (ClX.pin_at I3) (codeAny_mono (F X.A X.stack s3 H2 (.ref C :: us) (.ref C :: vs) Q (WE W σ) (hr.mono hj) I3.env0 (.cons rfl rv) q2) fun res s' hq => ?_))) fun _ _ y => y⟩
  cases res with
  | error e => exact passAt tk σ _ H2 s3 e s' I3 hq
  | ok fl =>
    cases fl with
    | ret u => exact ClX.unpinE (I3.after hq)
    | next => exact False.elim hq
    | brk => exact False.elim hq
    | cont => exact False.elim hq
theorem pe_cmethKW (he : PE X o ta) (r : ClX.CRead X.K C mc) (c : ClX.CMet X.K C mc m p g) (F : FrK X.prog X.w X.K X.mg X.base k g 1 ks gV sp) (hr : Room j X.A) (hj : k ≤ j) (tk : Takes X W) (hkw : PK X kws tkw)
    (hall : (backToKw pos (keywordEach kws X.env)).all (·.1.isSome) = true := by rfl) (hks : (backToKw pos (keywordEach kws X.env)).filterMap (·.1) = ks := by rfl)
    (hpl : ((backTo pos (starEach [] X.env)).any (·.1) || (backToKw pos (keywordEach kws X.env)).any (·.1.isNone)) = false := by rfl)
    (ht : eval (.Call (.Attribute o m apos) [] kws pos) X.env = (do
      let v ← eval o X.env
      standAt apos.atName
      let (f1, first) ← holding [v] (getMethod v m pl)
      callWith pos f1 first (backTo pos (starEach [] X.env)) (backToKw pos (keywordEach kws X.env))) := by rfl) : PE X (.Call (.Attribute o m apos) [] kws pos) (tCMethKW C ks.length sp gV W ta tkw) := by
  refine ⟨fun pins s σ H Q I h => PySem.W.methodCall_KW (pl := pl) (thn (he.run pins s σ H _ I h) fun u s1 hh => ?_) ht⟩
  obtain ⟨x, H1, I1, rx, rfl, q⟩ := hh
  obtain rfl : u = Value.ref C := rx
  refine ClX.getmethcm_ok I1 r c fun s2 I2 => PySem.W.callWith_of hpl (PySem.W.keeps_M (self := .ref C) c.fi) (evalArgs_kw2_nil hall (thn (hkw.run pos _ s2 σ H1 _ I2 q) fun ws s3 h3 => ?_))
  obtain ⟨zs, H2, I3, rz, l2, q2⟩ := h3
  rw [hks]
  refine ⟨⟨ClX.pin_at I3, I3.kIn⟩, wpAny_call (PySem.W.method_call (ClX.pin_at I3) (codeAny_mono (F X.A X.stack s3 H2 [.ref C] ws [.ref C] zs Q (WE W σ) (hr.mono hj) I3.env0 (.cons rfl .nil) rz rfl l2 q2) fun res s' hq => ?_))⟩
  cases res with
  | error e => exact passAt tk σ _ H2 s3 e s' I3 hq
  | ok fl =>
    cases fl with
    | ret u => exact ClX.unpinE (I3.after hq)
    | next => exact False.elim hq
    | brk => exact False.elim hq
    | cont => exact False.elim hq
end
/-! ### a property; a try; more -/
theorem frX {P : Program} {w : World} {K : PySem.W.Frag} {mg : Str → Option Value} {base : Heap} {k : Nat} {f : Addr} {fd : FuncData} {ps : List Str} {sp : Sp} (F : FnOk P w K mg base CX0 k f fd ps sp) (hb : Binds K fd ps []) : Fr P w K mg base k f sp := by
  intro A outer s H us vs Q E hr e0 r h
  have F2 := (F.raw hb (dvs := []) .nil) A outer s H us vs Q E hr e0 r (by show sp (vs ++ []) H Q E; rw [List.append_nil]; exact h)
  refine codeAny_mono F2 fun res s' hq => ?_
  cases res with
  | error e => exact False.elim hq
  | ok fl => cases fl <;> exact hq
theorem frC {P : Program} {w : World} {K : PySem.W.Frag} {mg : Str → Option Value} {base : Heap} {k : Nat} {f : Addr} {fd : FuncData} {ps : List Str} {sp : Sp} (F : FnOk P w K mg base (Cxx P w) k f fd ps sp) (hb : Binds K fd ps []) : Fr P w K mg base k f sp := by
  intro A outer s H us vs Q E hr e0 r h
  exact (F.raw hb (dvs := []) .nil) A outer s H us vs Q E hr e0 r (by show sp (vs ++ []) H Q E; rw [List.append_nil]; exact h)
def tPropR (C : Addr) (sp : Sp) (ta : TE) : TE := fun σ H Q => ta σ H fun x H1 => ∃ a dx fs, x = .ref a ∧ H1 a = some (.ins C dx fs) ∧ sp [.ref a] H1 Q E0
theorem pe_propR {X : Cx} {j k : Nat} {C p g : Addr} {f : Str} {sp : Sp} {e : Expr} {pos : Pos} {ta : TE} (he : PE X e ta) (c : Cls X.K C) (hp : PropOf X.K C f p g) (F : Fr X.prog X.w X.K X.mg X.base k g sp) (hr : Room j X.A) (hj : k + 1 ≤ j)
    (hab : attributeBase e f X.env (eval e X.env) = eval e X.env) : PE X (.Attribute e f pos) (tPropR C sp ta) := by
  refine ⟨fun pins s σ H Q I h => attr_of hab (thn (he.run pins s σ H _ I h) fun u s1 hh => ?_)⟩
  obtain ⟨x, H1, I1, rx, a, dx, fs, rfl, ea, q⟩ := hh
  obtain rfl : u = Value.ref a := rx
  obtain ⟨mA, O, _, _, _, _⟩ := ins_get I1.hok ea
  obtain ⟨od, J, _⟩ := O.look
  obtain ⟨rest, hrec⟩ := hp.rec_
  have I2 := I1.tok (s1.toks + 1)
  obtain ⟨cd, hc, _⟩ := PySem.W.any_some c.hd
  have hc' : (PySem.W.clsIn X.K C).isSome = true := by rw [hc]; rfl
  refine PySem.W.get_bind I1.kIn J (PySem.W.plainGet_of (c.get f)).1 (PySem.W.findObj_data hc' hp.at_ hp.get hp.tak) (PySem.W.plainGet_of (c.get f)).2 (wpAny_call (PySem.W.prop_get (s := { s1 with toks := s1.toks + 1 }) I1.kIn hrec ?_))
  refine codeAny_mono (F X.A.in1 X.stack { s1 with toks := s1.toks + 1 } H1 [.ref a] [.ref a] Q E0 (hr.mono hj).in1 I2.env0.in1 (.cons rfl .nil) q) fun res s' hq => ?_
  cases res with
  | error er =>
    obtain ⟨_, _, _, _, _, _, _, _, _, _, _, _, z⟩ := hq
    exact z.elim
  | ok fl =>
    cases fl with
    | ret u =>
      obtain ⟨v, H', I3, rv, q3⟩ := I2.after hq
      show wpAny _ _ (handedOut u) _ _ _
      rw [PySem.W.handedOut_of (handed_of rv)]
      exact wpAny_pure ⟨v, H', I3, rv, q3⟩
    | next => exact False.elim hq
    | brk => exact False.elim hq
    | cont => exact False.elim hq
theorem pe_fldK (K : PySem.W.Frag) {X : Cx} {e : Expr} {f : Str} {pos : Pos} {ta : TE} (he : PE X e ta) (hb : attributeBase e f X.env (eval e X.env) = eval e X.env) (hK : X.K = K := by rfl) : PE X (.Attribute e f pos) (tFld K ta f) := hK ▸ pe_fld he hb
theorem ps_fldK (K : PySem.W.Frag) {X : Cx} {o value : Expr} {f : Str} {pos pos' : Pos} {ta tv : TE} (ha : PE X o ta) (hv : PE X value tv) (hs : swapsWith value (some (.Attribute o f pos')) pos.line X.env = pure false) (hK : X.K = K := by rfl) : PS X (.Assign [.Attribute o f pos'] value pos) (sFld K ta tv f) := hK ▸ ps_fld ha hv hs
def tTry (K : PySem.W.Frag) (Wout : WX) (l : List Xs.Cl) (tb : WX → TS) : TS := fun D σ H => tb (Xs.wG K Wout D l) D σ H
theorem ps_tryT (K : PySem.W.Frag) {X : Cx} {body : List Stmt} {h0 : ExceptHandler} {hds : List ExceptHandler} {l : List Xs.Cl} {pos : Pos} {tb : WX → TS} {Wout : WX} (hs : X.stack = X.env :: X.outer) (hf : X.env.frame = some X.env.locals) (tk : Takes X Wout)
    (hb : ∀ (W : WX) (pn : List (Addr × Obj)) (xe : Value → Shared → Prop), Takes (X.tr pn xe) W → PassesOwn (model X.prog X.w) X.A X.env xe → PSs (X.tr pn xe) body (tb W)) (hh : Xs.ClsOk X (h0 :: hds) l) (hK : X.K = K := by rfl) :
    PS X (.Try body (h0 :: hds) [] [] pos) (tTry K Wout l tb) := hK ▸ Xs.ps_tryG hs hf tk hb hh
section
variable {X : Cx}
theorem op_eqN (K : PySem.W.Frag) (hu : X.A.units + 64 < cLine) (hK : X.K = K := by rfl) : OpR X (compareOp .Eq) (Vc.rEqU K) := hK ▸ OpR.or op_eq (op_eqD hu)
theorem op_neN (K : PySem.W.Frag) (hu : X.A.units + 64 < cLine) (hK : X.K = K := by rfl) : OpR X (compareOp .NotEq) (Vc.rNeU K) := hK ▸ OpR.or op_ne (op_neD hu)
def rSortedU (K : PySem.W.Frag) : List V → Hp → VK → Prop := fun vs H Q => rSorted K vs H Q ∨ rSortedS K vs H Q
theorem call_sortedU (K : PySem.W.Frag) (hK : X.K = K := by rfl) : CallR X (.builtin "sorted") (rSortedU K) := hK ▸ CallR.or cr_sorted cr_sortedS
end
section
variable {K : PySem.W.Frag} {σ σ' : L2.St} {H H' : Hp} {ta tb te : TE} {t : TA} {x y z v : V} {D : Ends} {Q : VK} {C : Addr} {sp : Sp} {W : WX} {f : Str}
theorem w_call (h : t σ H fun vs H1 => sp vs H1 Q (WE W σ)) : tCallW sp W t σ H Q := h
theorem w_make (h : t σ H fun vs H1 => MakeK C sp (WE W σ) Q vs H1) : tMakeW C sp W t σ H Q := h
theorem w_makeL {i : Nat} (e : σ[i]? = some (some (.ref C))) (h : t σ H fun vs H1 => MakeK C sp (WE W σ) Q vs H1) : tMakeLW i C sp W t σ H Q := ⟨e, h⟩
theorem w_meth {m : Str} (h : ta σ H fun x H1 => ∃ a dx fs, x = .ref a ∧ H1 a = some (.ins C dx fs) ∧ fs.lookup m = none ∧ t σ H1 fun vs H2 => sp (x :: vs) H2 Q (WE W σ)) : tMethW C m sp W ta t σ H Q := h
theorem w_methAt {m : Str} {a dx : Addr} {fs : List (Str × V)} {T : Prop} (e : H a = some (.ins C dx fs)) (e2 : fs.lookup m = none) (h : T) : ∃ a' dx fs, V.ref a = .ref a' ∧ H a' = some (.ins C dx fs) ∧ fs.lookup m = none ∧ T := ⟨a, dx, fs, rfl, e, e2, h⟩
theorem w_neg (h : ta σ H fun x H1 => ∃ a dx fs, x = .ref a ∧ H1 a = some (.ins C dx fs) ∧ sp [.ref a] H1 Q (WE W σ)) : tNegW C sp W ta σ H Q := h
theorem w_bin (h : ta σ H fun x H1 => tb σ H1 fun y H2 => ∃ a b dx dy fs gs, x = .ref a ∧ y = .ref b ∧ H2 a = some (.ins C dx fs) ∧ H2 b = some (.ins C dy gs) ∧ sp [.ref a, .ref b] H2 (fun v H3 => (∃ c, v = .ref c) ∧ Q v H3) (WE W σ)) : tBinW C sp W ta tb σ H Q := h
theorem w_makeK {m : Nat} {gV : List V → List V → List V} (h : t σ H fun zs H2 => zs.length = m ∧ MakeG C sp gV (WE W σ) Q zs H2) : tMakeKW C m sp gV W t σ H Q := h
theorem w_cmeth (h : ta σ H fun x H1 => x = .ref C ∧ t σ H1 fun vs H2 => sp (.ref C :: vs) H2 Q (WE W σ)) : tCMethW C sp W ta t σ H Q := h
theorem w_cmethK {m : Nat} {gV : List V → List V → List V} (h : ta σ H fun x H1 => x = .ref C ∧ t σ H1 fun zs H2 => zs.length = m ∧ sp (gV [.ref C] zs) H2 Q (WE W σ)) : tCMethKW C m sp gV W ta t σ H Q := h
theorem w_prop (h : ta σ H fun x H1 => ∃ a dx fs, x = .ref a ∧ H1 a = some (.ins C dx fs) ∧ sp [.ref a] H1 Q E0) : tPropR C sp ta σ H Q := h
theorem w_fld (h : ta σ H fun x H1 => ∃ a C dx fs v, x = .ref a ∧ H1 a = some (.ins C dx fs) ∧ Cls K C ∧ NoAttr K C f ∧ fs.lookup f = some v ∧ Q v H1) : tFld K ta f σ H Q := h
theorem w_fldAt {a dx : Addr} {fs : List (Str × V)} (e : H a = some (.ins C dx fs)) (c : Cls K C) (n : NoAttr K C f) (l : fs.lookup f = some v) (h : Q v H) : ∃ a' C dx fs v', V.ref a = .ref a' ∧ H a' = some (.ins C dx fs) ∧ Cls K C ∧ NoAttr K C f ∧ fs.lookup f = some v' ∧ Q v' H := ⟨a, C, dx, fs, v, rfl, e, c, n, l, h⟩
theorem w_sfld (h : tb σ H fun y H1 => ta σ H1 fun x H2 => ∃ a C dx fs, x = .ref a ∧ H2 a = some (.ins C dx fs) ∧ Cls K C ∧ NoAttr K C f ∧ fs.length < 1000 ∧ D.nx σ (upd H2 a (.ins C dx (putF f y fs)))) : sFld K ta tb f D σ H := h
theorem w_xf {a C : Addr} {cls : Value} {d : Option Addr} (h : te σ H fun x H1 => x = .ref a ∧ cls = .ref C ∧ ∃ (dd : Addr) (fs : List (Str × V)) (v : V), d = some dd ∧ H1 dd = some (.xd fs) ∧ fs.lookup f = some v ∧ Q v H1) : tXf a cls d C f te σ H Q := h
theorem w_xfAt {a C dd : Addr} {fs : List (Str × V)} (e : H dd = some (.xd fs)) (l : fs.lookup f = some v) (h : Q v H) : V.ref a = .ref a ∧ Value.ref C = .ref C ∧ ∃ (dd' : Addr) (fs : List (Str × V)) (v : V), some dd = some dd' ∧ H dd' = some (.xd fs) ∧ fs.lookup f = some v ∧ Q v H := ⟨rfl, rfl, dd, fs, v, rfl, e, l, h⟩
theorem w_raise {flds : List Str} (h : t σ H fun vs H1 => Xs.RaiseK C flds (fun cls d H' => W cls d σ H') vs H1) : Xs.tRaise C flds W t D σ H := h
theorem w_try {Wout : WX} {l : List Xs.Cl} {tb : WX → TS} (h : tb (Xs.wG K Wout D l) D σ H) : tTry K Wout l tb D σ H := h
theorem w_hit {Wout : WX} {k : Xs.Cl} {l : List Xs.Cl} {cls : Value} {d : Option Addr} (h : PySem.W.exmOne K cls k.c = some true) (q : ∀ a, H a = none → k.wish D cls d a σ H) : WE (Xs.wG K Wout D (k :: l)) σ cls d H := ⟨true, h, fun _ => q, fun z => by cases z⟩
theorem w_miss {Wout : WX} {k : Xs.Cl} {l : List Xs.Cl} {cls : Value} {d : Option Addr} (h : PySem.W.exmOne K cls k.c = some false) (q : WE (Xs.wG K Wout D l) σ cls d H) : WE (Xs.wG K Wout D (k :: l)) σ cls d H := ⟨false, h, (fun z => by cases z), fun _ => q⟩
theorem w_wishAs {c : Value} {i : Nat} {ts : Addr → Value → Option Addr → TS} {cls : Value} {d : Option Addr} {a : Addr} (e : σ.set i (some (.ref a)) = σ') (h : ts a cls d (Xs.goneE D i) σ' H) : Xs.Cl.wish ⟨c, some i, ts⟩ D cls d a σ H := by
  subst e
  exact h
theorem w_wish {c : Value} {ts : Addr → Value → Option Addr → TS} {cls : Value} {d : Option Addr} {a : Addr} (h : ts a cls d D σ H) : Xs.Cl.wish ⟨c, none, ts⟩ D cls d a σ H := h
theorem w_gone {i : Nat} (e : σ.set i none = σ') (h : D.nx σ' H) : (Xs.goneE D i).nx σ H := by
  subst e
  exact h
theorem w_and {T : Prop} (h : T) : V.ref C = .ref C ∧ T := ⟨rfl, h⟩
end
end Ow

set_option Elab.async false
set_option linter.all false
set_option maxRecDepth 100000
set_option maxHeartbeats 4000000
/-! facts of classes, for the end -/
namespace Xe
open PySem PySem.Spec PyProof.Rows L2
section
variable {K : PySem.W.Frag} {C D : Addr} {t : Value} {b : Bool}
theorem cls_sub (iC : PySem.W.isClsIn K D = true) (tC : PySem.W.typeIn K (.ref D) = some (.type "type")) (s : PySem.W.subIn K t (.ref D) = some b) : PySem.W.kitCls K t (.ref D) = some b := by
  have i : (PySem.W.clsIn K D).isSome = true := iC
  show (if ((PySem.W.clsIn K D).isSome && PySem.W.typeIn K (.ref D) == some (.type "type")) = true then PySem.W.subIn K t (.ref D) else none) = some b
  rw [i, tC, s]
  exact if_pos (by decide)
theorem kit_sub (h0 : (t == Value.ref D) = false) (iC : PySem.W.isClsIn K D = true) (tC : PySem.W.typeIn K (.ref D) = some (.type "type")) (s : PySem.W.subIn K t (.ref D) = some b) : PySem.W.kitOne K t (.ref D) = some b := by
  unfold PySem.W.kitOne
  rw [h0, if_neg (by decide)]
  exact cls_sub iC tC s
theorem kit_self : PySem.W.kitOne K (.ref C) (.ref C) = some true := if_pos (by simp)
theorem exm_sub (eC : PySem.W.subIn K (.ref D) (.type "BaseException") = some true) (iC : PySem.W.isClsIn K D = true) (tC : PySem.W.typeIn K (.ref D) = some (.type "type")) (s : PySem.W.subIn K t (.ref D) = some b) : PySem.W.exmOne K t (.ref D) = some b := by
  unfold PySem.W.exmOne
  rw [eC, if_pos (by decide)]
  exact cls_sub iC tC s
theorem no_of0 : ∀ f ∈ ([] : List Str), PySem.W.findIn K (.ref C) f = some none := fun f h => by cases h
theorem no_of1 {a : Str} (h1 : PySem.W.findIn K (.ref C) a = some none) : ∀ f ∈ [a], PySem.W.findIn K (.ref C) f = some none := fun f h => by
  rw [List.mem_singleton] at h
  rw [h]
  exact h1
theorem no_of2 {a c : Str} (h1 : PySem.W.findIn K (.ref C) a = some none) (h2 : PySem.W.findIn K (.ref C) c = some none) : ∀ f ∈ [a, c], PySem.W.findIn K (.ref C) f = some none := fun f h => by
  rcases List.mem_cons.mp h with h | h
  · rw [h]
    exact h1
  · exact no_of1 h2 f h
theorem sup_binds {fd : FuncData} {ps : List Str} (h : ∀ us : List Value, us.length = ps.length → bindArgs fd ⟨us, []⟩ = pure (ps.zip us)) : Binds K fd ps [] := fun s us _ hl => by
  rw [List.append_nil] at hl ⊢
  exact .of_eq (h us hl)
theorem lookup_mem {l : List (Str × NameKind)} {x : Str} {k : NameKind} (h : l.lookup x = some k) : (x, k) ∈ l := by
  induction l with
  | nil => cases h
  | cons p r ih =>
    rw [List.lookup_cons] at h
    split at h
    · rename_i e
      cases h
      rw [beq_iff_eq.mp e]
      exact List.mem_cons_self
    · exact List.mem_cons_of_mem _ (ih h)
theorem free_by {sc : Scope} (h : (sc.names.all fun p => p.2 != .free || p.1 == ("__class__" : Str)) = true) : ∀ x, sc.names.lookup x = some .free → x = "__class__" := fun x e => by
  have := List.all_eq_true.mp h _ (lookup_mem e)
  simpa using this
theorem nocell_by {sc : Scope} (h : (sc.names.all fun p => p.2 != .cell) = true) : ∀ x, sc.names.lookup x ≠ some .cell := fun x e => by
  have := List.all_eq_true.mp h _ (lookup_mem e)
  simp at this
theorem vals_rev {vs zs : List V} {us ws : List Value} (h1 : Vals vs us) (h2 : Vals zs ws) : Vals (vs ++ zs.reverse) (us ++ ws.reverse) := by
  refine h1.append ?_
  induction h2 with
  | nil => exact .nil
  | cons a r ih =>
    rw [List.reverse_cons, List.reverse_cons]
    exact ih.append (.cons a .nil)
end
end Xe

set_option Elab.async false
set_option maxRecDepth 100000
set_option maxHeartbeats 4000000
namespace K02
open PySem L2
local macro_rules | `(tactic| walk_at "hp") => `(tactic| first | assumption | exact upd_same | (refine Vc.h_new (by assumption) ?_; walk_at "hp") | (refine Vc.h_mut (by assumption) ?_; walk_at "hp"))
local macro_rules | `(tactic| walk_at "sq") => `(tactic| first | assumption | (refine SqL.of ?_; walk_at "hp") | (refine SqT.of ?_; walk_at "hp"))
local macro_rules | `(tactic| walk_at "v1") => `(tactic| first
  | with_reducible refine Vc.v_seq ?_
  | with_reducible refine Vc.v_ret ?_
  | with_reducible refine Vc.v_retN ?_
  | with_reducible refine Vc.v_drop ?_
  | with_reducible refine Vc.v_next ?_
  | with_reducible refine Vc.v_asg ?_
  | with_reducible refine Vc.v_ifS ?_
  | ((with_reducible refine' Vc.v_name ?vv ?_); (case vv => ((conv => lhs; simp only [List.set_cons_succ, List.set_cons_zero]); first | done | exact rfl)))
  | ((with_reducible refine' Vc.v_var ?vv ?_); (case vv => exact rfl))
  | with_reducible refine Vc.v_c ?_
  | with_reducible refine Vc.v_op ?_
  | with_reducible refine Vc.v_un ?_
  | with_reducible refine Vc.v_chain ?_
  | with_reducible refine Vc.v_test ?_
  | with_reducible refine Vc.v_B ?_
  | with_reducible refine Vc.v_and ?_
  | with_reducible refine Vc.v_or ?_
  | with_reducible refine Vc.v_not ?_
  | with_reducible refine Vc.v_andV ?_
  | with_reducible refine Vc.v_orV ?_
  | with_reducible refine Vc.v_notV ?_
  | with_reducible refine Vc.v_if ?_
  | with_reducible refine Vc.v_bl ?_
  | with_reducible refine Vc.v_blP ?_
  | with_reducible refine Vc.v_cb ?_
  | with_reducible refine Vc.v_call ?_
  | with_reducible refine Vc.v_nil ?_
  | with_reducible refine Vc.v_cons ?_
  | with_reducible refine Vc.v_lst ?_
  | with_reducible refine Vc.v_tup ?_
  | with_reducible refine Vc.v_m0 ?_
  | with_reducible refine Vc.v_m1 ?_
  | with_reducible refine Vc.v_strAnd ?_
  | with_reducible refine Vc.v_sl ?_
  | with_reducible refine Vc.v_noPart ?_
  | with_reducible refine Vc.v_part ?_
  | with_reducible refine Vc.v_int ?_
  | with_reducible refine Vc.v_I0 ?_
  | with_reducible refine Vc.v_U ?_
  | with_reducible refine Vc.v_addI ?_
  | with_reducible refine Vc.v_leU ?_
  | with_reducible refine Vc.v_geU ?_
  | with_reducible refine Vc.v_gtU ?_
  | with_reducible refine Vc.v_ltU ?_
  | with_reducible refine Vc.v_ltS ?_
  | with_reducible refine Vc.v_max2 ?_
  | with_reducible refine Vc.v_min2 ?_
  | with_reducible refine Vc.v_reprB ?_
  | with_reducible refine Vc.v_intI ?_
  | with_reducible refine Vc.v_intB ?_
  | with_reducible refine Vc.v_strS ?_
  | with_reducible refine Vc.v_par ?_
  | ((with_reducible refine' Vc.v_twoS ?vv ?_); (case vv => ((conv => lhs; simp only [List.set_cons_succ, List.set_cons_zero]); first | done | exact rfl)))
  | with_reducible refine Vc.v_iteT ?_
  | with_reducible refine Vc.v_iteF ?_
  | with_reducible refine Vc.v_iteFt ?_
  | with_reducible refine Vc.v_iteTf ?_
  | with_reducible refine Vc.v_for ?_
  | with_reducible refine Vc.v_yes ?_
  | with_reducible refine Vc.v_sm0 ?_
  | with_reducible refine Vc.v_callKn ?_
  | with_reducible refine Vc.v_gSub ?_
  | with_reducible refine Vc.v_disp ?_
  | with_reducible refine Vc.v_pnil ?_
  | with_reducible refine Vc.v_pcons ?_
  | with_reducible refine Vc.v_lc ?_
  | with_reducible refine Vc.v_iList ?_
  | with_reducible refine Vc.v_iRng1 ?_
  | with_reducible refine Vc.v_iRng2 ?_
  | with_reducible refine Vc.v_iStr ?_
  | with_reducible refine Vc.v_inS ?_
  | with_reducible refine Vc.v_notInS ?_)
local macro_rules | `(tactic| walk_at "v") => `(tactic| repeat walk_at "v1")
local macro_rules | `(tactic| walk_at "sz") => `(tactic| (simp only [List.length_cons, List.length_nil, List.length_append, List.length_map, List.length_set, Vc.szE]; first | decide | omega))
local macro_rules | `(tactic| walk_at "n1") => `(tactic| first
  | with_reducible refine Vc.v_seq ?_
  | with_reducible refine Vc.v_ret ?_
  | with_reducible refine Vc.v_retN ?_
  | with_reducible refine Vc.v_drop ?_
  | with_reducible refine Vc.v_next ?_
  | with_reducible refine Vc.v_asg ?_
  | with_reducible refine Vc.v_ifS ?_
  | ((with_reducible refine' Vc.v_name ?vv ?_); (case vv => ((conv => lhs; simp only [List.set_cons_succ, List.set_cons_zero]); first | done | exact rfl)))
  | ((with_reducible refine' Vc.v_var ?vv ?_); (case vv => exact rfl))
  | with_reducible refine Vc.v_c ?_
  | with_reducible refine Vc.v_op ?_
  | with_reducible refine Vc.v_un ?_
  | with_reducible refine Vc.v_chain ?_
  | with_reducible refine Vc.v_test ?_
  | with_reducible refine Vc.v_B ?_
  | with_reducible refine Vc.v_not ?_
  | with_reducible refine Vc.v_notV ?_
  | with_reducible refine Vc.v_if ?_
  | with_reducible refine Vc.v_bl ?_
  | with_reducible refine Vc.v_blP ?_
  | with_reducible refine Vc.v_cb ?_
  | with_reducible refine Vc.v_call ?_
  | with_reducible refine Vc.v_nil ?_
  | with_reducible refine Vc.v_cons ?_
  | with_reducible refine Vc.v_lst ?_
  | with_reducible refine Vc.v_tup ?_
  | with_reducible refine Vc.v_m0 ?_
  | with_reducible refine Vc.v_m1 ?_
  | with_reducible refine Vc.v_strAnd ?_
  | with_reducible refine Vc.v_sl ?_
  | with_reducible refine Vc.v_noPart ?_
  | with_reducible refine Vc.v_part ?_
  | with_reducible refine Vc.v_int ?_
  | with_reducible refine Vc.v_I0 ?_
  | with_reducible refine Vc.v_U ?_
  | with_reducible refine Vc.v_addI ?_
  | with_reducible refine Vc.v_leU ?_
  | with_reducible refine Vc.v_geU ?_
  | with_reducible refine Vc.v_gtU ?_
  | with_reducible refine Vc.v_ltU ?_
  | with_reducible refine Vc.v_ltS ?_
  | with_reducible refine Vc.v_max2 ?_
  | with_reducible refine Vc.v_min2 ?_
  | with_reducible refine Vc.v_reprB ?_
  | with_reducible refine Vc.v_intI ?_
  | with_reducible refine Vc.v_intB ?_
  | with_reducible refine Vc.v_strS ?_
  | with_reducible refine Vc.v_par ?_
  | ((with_reducible refine' Vc.v_twoS ?vv ?_); (case vv => ((conv => lhs; simp only [List.set_cons_succ, List.set_cons_zero]); first | done | exact rfl)))
  | with_reducible refine Vc.v_iteT ?_
  | with_reducible refine Vc.v_iteF ?_
  | with_reducible refine Vc.v_iteFt ?_
  | with_reducible refine Vc.v_iteTf ?_
  | with_reducible refine Vc.v_for ?_
  | with_reducible refine Vc.v_yes ?_
  | with_reducible refine Vc.v_sm0 ?_
  | with_reducible refine Vc.v_callKn ?_
  | with_reducible refine Vc.v_gSub ?_
  | with_reducible refine Vc.v_disp ?_
  | with_reducible refine Vc.v_pnil ?_
  | with_reducible refine Vc.v_pcons ?_
  | with_reducible refine Vc.v_lc ?_
  | with_reducible refine Vc.v_iList ?_
  | with_reducible refine Vc.v_iRng1 ?_
  | with_reducible refine Vc.v_iRng2 ?_
  | with_reducible refine Vc.v_iStr ?_
  | with_reducible refine Vc.v_inS ?_
  | with_reducible refine Vc.v_notInS ?_)
local macro_rules | `(tactic| walk_at "w1") => `(tactic| first
  | with_reducible refine Ow.w_call ?_
  | with_reducible refine Ow.w_make ?_
  | with_reducible refine Ow.w_meth ?_
  | with_reducible refine Ow.w_neg ?_
  | with_reducible refine Ow.w_bin ?_
  | with_reducible refine Ow.w_makeK ?_
  | with_reducible refine Ow.w_cmeth ?_
  | with_reducible refine Ow.w_cmethK ?_
  | with_reducible refine Ow.w_prop ?_
  | with_reducible refine Ow.w_fld ?_
  | with_reducible refine Ow.w_sfld ?_
  | with_reducible refine Ow.w_xf ?_
  | with_reducible refine Ow.w_raise ?_
  | with_reducible refine Ow.w_try ?_
  | ((with_reducible refine' Ow.w_gone ?vv ?_); (case vv => ((conv => lhs; simp only [List.set_cons_succ, List.set_cons_zero]); first | done | exact rfl)))
  | with_reducible refine Ow.w_and ?_)
local macro_rules | `(tactic| walk_at "w") => `(tactic| repeat (first | walk_at "v1" | walk_at "w1"))
local macro_rules | `(tactic| walk_at "n") => `(tactic| repeat (first | walk_at "n1" | walk_at "w1"))

def topS (i : Nat) : Stmt := PySem.Challenge.pw_surehollows_k02_bounds_and_their_signs.main.body.getD i (.Pass ⟨0, 0, 0, 0⟩)
structure Bt (mg : Str → Option Value) (mt : Tok) (CB : Addr) : Prop where
  b_isinstance : mg "isinstance" = none
  b_int : mg "int" = none
  b_bool : mg "bool" = none
  b_len : mg "len" = none
  b_max : mg "max" = none
  b_min : mg "min" = none
  b_repr : mg "repr" = none
  b_range : mg "range" = none
  b_sorted : mg "sorted" = none
  g_MOST_HEIGHT : mg "MOST_HEIGHT" = some (.int 1000000000000 mt)
  c_Bounds : mg "Bounds" = some (.ref CB)
/-- values of the kinds that are asked of -/
inductive Kd (K : PySem.W.Frag) (H : Hp) : V → String → Prop where
  | non : Kd K H .non "NoneType"
  | bl (b : Bool) : Kd K H (.bl b) "bool"
  | int (i : Int) : Kd K H (.int i) "int"
  | str (z : Str) (h : z.length ≤ sizeLine) : Kd K H (.str z) "str"
  | lst {a : Addr} {xs : List V} (e : H a = some (.lst xs)) : Kd K H (.ref a) "list"
  | tup {a : Addr} {xs : List V} (e : H a = some (.tup xs)) : Kd K H (.ref a) "tuple"
  | dK {a : Addr} {xs : List (Key × V)} (e : H a = some (.dK xs)) : Kd K H (.ref a) "dict"
theorem Kd.ty {K : PySem.W.Frag} {H : Hp} {v : V} {t : String} (h : Kd K H v t) : TyX K H v (.type t) := by
  cases h with
  | non => exact .base .non
  | bl b => exact .base (.bl b)
  | int i => exact .base (.int i)
  | str z h => exact .base (.str z)
  | lst e => exact .base (.lst e)
  | tup e => exact .base (.tup e)
  | dK e => exact .base (.dK e)
def vI : V → Bool
  | .int _ => true
  | .bl _ => true
  | _ => false
def vB : V → Bool
  | .bl _ => true
  | _ => false
def vS : V → Bool
  | .str _ => true
  | _ => false
theorem Kd.kI {K : PySem.W.Frag} {H : Hp} {v : V} {t : String} (h : Kd K H v t) : PySem.W.kitOne K (.type t) (.type "int") = some (vI v) := by
  cases h <;> first | exact kit_ty (r := true) (by decide +kernel) | exact kit_ty (r := false) (by decide +kernel)
theorem Kd.kB {K : PySem.W.Frag} {H : Hp} {v : V} {t : String} (h : Kd K H v t) : PySem.W.kitOne K (.type t) (.type "bool") = some (vB v) := by
  cases h <;> first | exact kit_ty (r := true) (by decide +kernel) | exact kit_ty (r := false) (by decide +kernel)
theorem Kd.kS {K : PySem.W.Frag} {H : Hp} {v : V} {t : String} (h : Kd K H v t) : PySem.W.kitOne K (.type t) (.type "str") = some (vS v) := by
  cases h <;> first | exact kit_ty (r := true) (by decide +kernel) | exact kit_ty (r := false) (by decide +kernel)
def isHt : V → Bool
  | .int i => decide (-1000000000000 ≤ i ∧ i ≤ 1000000000000)
  | _ => false
def sp_is_height (K : PySem.W.Frag) : Sp := fun vs H Q _ => ∃ v t, vs = [v] ∧ Kd K H v t ∧ Q (.bl (isHt v)) H
abbrev s_is_height : Stmt := topS 8
abbrev n_is_height : List Str := ["value"]
theorem sc_is_height : FnScope n_is_height ["value"] (defScope s_is_height) := ⟨rfl, rfl, rfl, by decide +kernel, rfl, by decide +kernel, by decide +kernel⟩


section
variable {P : Program} {w : World} {K : PySem.W.Frag} {mg : Str → Option Value} {base : Heap} {mt : Tok} {CB : Addr}
theorem ok_is_height {f : Addr} {fd : FuncData} (F : Fun K "is_height" "is_height" s_is_height f fd) (B : Bt mg mt CB) : FnOk P w K mg base CX0 1 f fd ["value"] (sp_is_height K) := by
  refine F.ok sc_is_height (fun vs H Q E h => ?_) (fun cdv A outer s H vs Q E hr h => ?_)
  · obtain ⟨v, t, rfl, _⟩ := h
    rfl
  · obtain ⟨v, ty, rfl, hk, k⟩ := h
    refine ⟨_, (pss_cons (ps_if (PW.pt (pw_or (pt_not (pt_val (pe_callB (Vc.call_isiU K) (by rfl) B.b_isinstance (by decide +kernel) (pa_cons (pv 0) (pa_cons (pe_bltn (v := .ty "int") (by rfl) B.b_int (by decide +kernel) rfl) pa_nil))))) (pw_or1 (pt_val (pe_callB (Vc.call_isiU K) (by rfl) B.b_isinstance (by decide +kernel) (pa_cons (pv 0) (pa_cons (pe_bltn (v := .ty "bool") (by rfl) B.b_bool (by decide +kernel) rfl) pa_nil))))))) (pss_one (ps_ret pe_bl)) pss_nil)
      (pss_one (ps_ret (pe_chain Vc.op_leU Vc.op_leU (pe_un un_neg (pe_glob (v := .int 1000000000000) rfl B.g_MOST_HEIGHT ⟨_, rfl⟩)) (pv 0) (pe_glob (v := .int 1000000000000) rfl B.g_MOST_HEIGHT ⟨_, rfl⟩))))), ?_⟩
    refine Vc.v_start (σ' := [some v]) rfl ?_
    walk_at "v"
    refine Vc.v_isi (.ty "int") hk.ty hk.kI ?_
    walk_at "v"
    have hB : TyX K H v (.type ty) := hk.ty
    have kB := hk.kB
    cases hk with
    | int i =>
      refine Vc.v_iteE (c := false) rfl ?_
      walk_at "v"
      refine Vc.v_isi (.ty "bool") hB kB ?_
      walk_at "v"
      refine Vc.v_iteE (c := false) rfl ?_
      walk_at "v"
      refine Vc.v_iteD (fun h1 => ?_) (fun h1 => ?_)
      · walk_at "v"
        have e : decide (i ≤ 1000000000000) = isHt (.int i) := by
          unfold isHt
          rw [decide_eq_decide]
          omega
        rw [e]
        exact k
      · have e : false = isHt (.int i) := by
          unfold isHt
          rw [eq_comm, decide_eq_false_iff_not]
          omega
        rw [e]
        exact k
    | bl b =>
      refine Vc.v_iteE (c := false) rfl ?_
      walk_at "v"
      refine Vc.v_isi (.ty "bool") hB kB ?_
      walk_at "v"
      exact k
    | non => exact k
    | str z h => exact k
    | lst e => exact k
    | tup e => exact k
    | dK e => exact k

structure BoxAt (H : Hp) (b : Addr) (n : Nat) : Prop where
  ex : ∃ g r c : Int, H b = some (.lst [.int g, .int r, .int c]) ∧ 0 ≤ r ∧ r < 2147483629 ∧ 0 ≤ c ∧ c ≤ n
def sp_cell (K : PySem.W.Frag) : Sp := fun vs H Q _ => ∃ a k, ∃ ns : List Int, vs = [.ref a, .int k] ∧ SqL K H a (ns.map V.int) ∧ 0 ≤ k ∧ k ≤ 1000 ∧ ∀ z, Q (.int z) H
def sp_box : Sp := fun vs H Q _ => ∃ z, vs = [.int z] ∧ ∀ p H', H p = none → BoxAt H' p 0 → Same H H' → Q (.ref p) H'
def sp_take : Sp := fun vs H Q _ => ∃ b m n, vs = [.ref b, .int m] ∧ BoxAt H b n ∧ n < 100000 ∧ 0 < m ∧ m ≤ 1000000000000 ∧ ∀ d H', 0 ≤ d → d < m → BoxAt H' b (n + 1) → Vc.But b H H' → Q (.int d) H'
abbrev s__law_cell : Stmt := topS 11
abbrev n__law_cell : List Str := ["_law_script", "_law_k"]
theorem sc__law_cell : FnScope n__law_cell ["_law_script", "_law_k"] (defScope s__law_cell) := ⟨rfl, rfl, rfl, by decide +kernel, rfl, by decide +kernel, by decide +kernel⟩

abbrev s__law_box : Stmt := topS 12
abbrev n__law_box : List Str := ["_law_cell_here"]
theorem sc__law_box : FnScope n__law_box ["_law_cell_here"] (defScope s__law_box) := ⟨rfl, rfl, rfl, by decide +kernel, rfl, by decide +kernel, by decide +kernel⟩

abbrev s__law_take : Stmt := topS 13
abbrev n__law_take : List Str := ["_law_box_here", "_law_many", "_law_digit", "_law_one", "_law_two"]
theorem sc__law_take : FnScope n__law_take ["_law_box_here", "_law_many"] (defScope s__law_take) := ⟨rfl, rfl, rfl, by decide +kernel, rfl, by decide +kernel, by decide +kernel⟩

theorem atI_ints {ns : List Int} {k : Int} (h0 : 0 ≤ k) (h1 : k < ns.length) : ∃ z, atI (ns.map V.int) k = some (.int z) := by
  have h : k.toNat < ns.length := by omega
  refine ⟨ns[k.toNat], ?_⟩
  unfold atI ixN
  rw [if_pos h0, List.length_map, if_pos h1]
  show (ns.map V.int)[k.toNat]? = _
  rw [List.getElem?_map, List.getElem?_eq_getElem h]
  rfl
theorem ok_cell {f : Addr} {fd : FuncData} (F : Fun K "_law_cell" "_law_cell" s__law_cell f fd) (B : Bt mg mt CB) : FnOk P w K mg base CX0 1 f fd ["_law_script", "_law_k"] (sp_cell K) := by
  refine F.ok sc__law_cell (fun vs H Q E h => ?_) (fun cdv A outer s H vs Q E hr h => ?_)
  · obtain ⟨v, t, ns, rfl, _⟩ := h
    rfl
  · obtain ⟨a, i, ns, rfl, hs, h0, h1, k⟩ := h
    refine ⟨_, (pss_one (ps_ret (pe_ifExp (pt_cmpR Vc.op_ltU (pv 1) (pe_callB (Vc.call_lenU K) (by rfl) B.b_len (by decide +kernel) (pa_cons (pv 0) pa_nil)) (nomark _)) (pe_ix (Vc.ix_U K) (pv 0) (pv 1) (fun _ _ => rfl)) (pe_op Vc.op_addU (pe_op Vc.op_mulU pe_int (pv 1)) pe_int)))), ?_⟩
    refine Vc.v_start (σ' := [some (.ref a), some (.int i)]) rfl ?_
    walk_at "v"
    refine Vc.v_lenL hs ?_
    walk_at "v"
    refine Vc.v_iteD (fun h2 => ?_) (fun h2 => ?_)
    · walk_at "v"
      rw [List.length_map] at h2
      obtain ⟨z, hz⟩ := atI_ints h0 h2
      exact Vc.v_ixL hs hz (k z)
    · walk_at "v"
      refine Vc.v_mulI (.inl ⟨by decide, by decide⟩) ?_
      walk_at "v"
      exact k _
theorem ok_box {f : Addr} {fd : FuncData} (F : Fun K "_law_box" "_law_box" s__law_box f fd) (B : Bt mg mt CB) : FnOk P w K mg base CX0 1 f fd ["_law_cell_here"] sp_box := by
  refine F.ok sc__law_box (fun vs H Q E h => ?_) (fun cdv A outer s H vs Q E hr h => ?_)
  · obtain ⟨v, rfl, _⟩ := h
    rfl
  · obtain ⟨z, rfl, k⟩ := h
    refine ⟨_, (pss_one (ps_ret (pe_lst (pa_cons (pe_callB (Vc.call_maxU K rfl) (by rfl) B.b_max (by decide +kernel) (pa_cons pe_int (pa_cons (pe_op op_sub (pv 0) (pe_op op_pow pe_int pe_int)) pa_nil))) (pa_cons (pe_op op_mod (pe_callTy Vc.call_intU (by rfl) B.b_int (by decide +kernel) (pa_cons (pv 0) pa_nil)) pe_int) (pa_cons pe_int pa_nil)))))), ?_⟩
    refine Vc.v_start (σ' := [some (.int z)]) rfl ?_
    walk_at "v"
    refine Vc.v_I ⟨by decide, by decide, by decide⟩ ?_
    walk_at "v"
    refine Vc.v_I (by decide) ?_
    walk_at "v"
    refine ⟨by walk_at "sz", fun p hp => ?_⟩
    refine k p _ hp ⟨_, _, _, upd_same, Int.emod_nonneg _ (by decide), Int.emod_lt_of_pos _ (by decide), by decide, by decide⟩ (fun b o e => Vc.h_new hp e)
theorem ok_take {f : Addr} {fd : FuncData} (F : Fun K "_law_take" "_law_take" s__law_take f fd) (B : Bt mg mt CB) : FnOk P w K mg base CX0 1 f fd ["_law_box_here", "_law_many"] sp_take := by
  refine F.ok sc__law_take (fun vs H Q E h => ?_) (fun cdv A outer s H vs Q E hr h => ?_)
  · obtain ⟨v, m, n, rfl, _⟩ := h
    rfl
  · obtain ⟨b, m, n, rfl, ⟨g, r, c, hb, hr0, hr1, hc0, hc1⟩, hn, hm0, hm1, k⟩ := h
    refine ⟨_, (pss_cons (ps_if (pt_cmpR Vc.op_gtU (pe_ix (Vc.ix_U K) (pv 0) pe_int (fun _ _ => rfl)) pe_int (nomark _)) (pss_cons (ps_set (i := 2) sc__law_take.nd rfl (Or.inl rfl) (pe_op op_mod (pe_callTy Vc.call_intU (by rfl) B.b_int (by decide +kernel) (pa_cons (pe_ix (Vc.ix_U K) (pv 0) pe_int (fun _ _ => rfl)) pa_nil)) (pv 1)))
      (pss_cons (ps_asg (pe_op op_fdivW (pe_ix (Vc.ix_U K) (pv 0) pe_int (fun _ _ => rfl)) (pv 1)) (pg_sub (pv 0) pe_int set_list))
      (pss_one (ps_ret (pv 2))))) pss_nil)
      (pss_cons (ps_asg (pe_op Vc.op_addU (pe_ix (Vc.ix_U K) (pv 0) pe_int (fun _ _ => rfl)) pe_int) (pg_sub (pv 0) pe_int set_list))
      (pss_cons (ps_set (i := 3) sc__law_take.nd rfl (Or.inl rfl) (pe_op op_mod (pe_op op_pow (pe_callTy Vc.call_intU (by rfl) B.b_int (by decide +kernel) (pa_cons (pe_op Vc.op_addU (pe_op Vc.op_addU (pe_ix (Vc.ix_U K) (pv 0) pe_int (fun _ _ => rfl)) (pe_op Vc.op_mulU pe_int (pe_ix (Vc.ix_U K) (pv 0) pe_int (fun _ _ => rfl)))) pe_int) pa_nil)) pe_int) pe_int))
      (pss_cons (ps_set (i := 4) sc__law_take.nd rfl (Or.inl rfl) (pe_op op_mod (pe_op op_pow (pe_callTy Vc.call_intU (by rfl) B.b_int (by decide +kernel) (pa_cons (pe_op Vc.op_addU (pe_op Vc.op_addU (pe_op op_fdivW (pv 3) pe_int) (pe_op Vc.op_mulU (pe_op Vc.op_mulU pe_int (pe_ix (Vc.ix_U K) (pv 0) pe_int (fun _ _ => rfl))) (pe_ix (Vc.ix_U K) (pv 0) pe_int (fun _ _ => rfl)))) pe_int) pa_nil)) pe_int) pe_int))
      (pss_one (ps_ret (pe_op op_mod (pe_callTy Vc.call_intU (by rfl) B.b_int (by decide +kernel) (pa_cons (pe_op Vc.op_addU (pe_op op_fdivW (pv 3) pe_int) (pe_op Vc.op_mulU pe_int (pe_op op_fdivW (pv 4) pe_int))) pa_nil)) (pv 1)))))))), ?_⟩
    refine Vc.v_start (σ' := [some (.ref b), some (.int m), none, none, none]) rfl ?_
    walk_at "v"
    refine Vc.v_ixL (SqL.of hb) (by rfl) ?_
    walk_at "v"
    refine Vc.v_iteD (fun h2 => ?_) (fun h2 => ?_)
    · walk_at "v"
      refine Vc.v_ixL (SqL.of hb) (by rfl) ?_
      walk_at "v"
      refine Vc.v_I hm0 ?_
      walk_at "v"
      refine Vc.v_ixL (SqL.of hb) (by rfl) ?_
      walk_at "v"
      refine Vc.v_div hm0 hm1 ?_
      walk_at "v"
      refine Vc.v_setL hb (by rfl) ?_
      walk_at "v"
      exact k _ _ (Int.emod_nonneg _ (by omega)) (Int.emod_lt_of_pos _ hm0) ⟨_, _, _, upd_same, hr0, hr1, hc0, by omega⟩ (Vc.But.at (Vc.But.refl b H))
    · walk_at "v"
      refine Vc.v_ixL (SqL.of hb) (by rfl) ?_
      walk_at "v"
      refine Vc.v_setL hb (by rfl) ?_
      walk_at "v"
      have hb' : ∀ x, upd H b (.lst x) b = some (.lst x) := fun x => upd_same
      refine Vc.v_ixL (SqL.of (hb' _)) (by rfl) ?_
      walk_at "v"
      refine Vc.v_ixL (SqL.of (hb' _)) (by rfl) ?_
      walk_at "v"
      refine Vc.v_mulI (.inl ⟨by decide, by decide⟩) ?_
      walk_at "v"
      refine Vc.v_I ⟨by decide, by decide, by omega⟩ ?_
      walk_at "v"
      refine Vc.v_I (by decide) ?_
      walk_at "v"
      generalize hx : (r + 15485863 * (c + 1) + 83) ^ Int.toNat 5 % 2147483647 = x
      have hx0 : 0 ≤ x := by rw [← hx]; exact Int.emod_nonneg _ (by decide)
      have hx1 : x < 2147483647 := by rw [← hx]; exact Int.emod_lt_of_pos _ (by decide)
      refine Vc.v_div (by decide) (by decide) ?_
      walk_at "v"
      refine Vc.v_ixL (SqL.of (hb' _)) (by rfl) ?_
      walk_at "v"
      refine Vc.v_mulI (.inl ⟨by decide, by decide⟩) ?_
      walk_at "v"
      refine Vc.v_ixL (SqL.of (hb' _)) (by rfl) ?_
      walk_at "v"
      refine Vc.v_mulI (.inr ⟨by omega, by omega⟩) ?_
      walk_at "v"
      have hq : 96581 * (c + 1) * (c + 1) ≤ 96581 * 100001 * 100001 := Int.mul_le_mul (by omega) (by omega) (by omega) (by decide)
      have hq0 : 0 ≤ 96581 * (c + 1) * (c + 1) := Int.mul_nonneg (by omega) (by omega)
      refine Vc.v_I ⟨by decide, by decide, by omega⟩ ?_
      walk_at "v"
      refine Vc.v_I (by decide) ?_
      walk_at "v"
      refine Vc.v_div (by decide) (by decide) ?_
      walk_at "v"
      refine Vc.v_div (by decide) (by decide) ?_
      walk_at "v"
      refine Vc.v_mulI (.inl ⟨by decide, by decide⟩) ?_
      walk_at "v"
      refine Vc.v_I hm0 ?_
      exact k _ _ (Int.emod_nonneg _ (by omega)) (Int.emod_lt_of_pos _ hm0) ⟨_, _, _, upd_same, hr0, hr1, by omega, by omega⟩ (Vc.But.at (Vc.But.refl b H))


end
abbrev s_Bounds___init__ : Stmt := inClass (topS 9) 0
abbrev n_Bounds___init__ : List Str := ["self", "low", "high"]
theorem sc_Bounds___init__ : FnScope n_Bounds___init__ ["self", "low", "high"] (defScope s_Bounds___init__) := ⟨rfl, rfl, rfl, by decide +kernel, rfl, by decide +kernel, by decide +kernel⟩

abbrev s_Bounds_exact : Stmt := inClass (topS 9) 1
abbrev n_Bounds_exact : List Str := ["cls", "height"]
theorem sc_Bounds_exact : FnScope n_Bounds_exact ["cls", "height"] (defScope s_Bounds_exact) := ⟨rfl, rfl, rfl, by decide +kernel, rfl, by decide +kernel, by decide +kernel⟩

abbrev s_Bounds_width : Stmt := inClass (topS 9) 3
abbrev n_Bounds_width : List Str := ["self"]
theorem sc_Bounds_width : FnScope n_Bounds_width ["self"] (defScope s_Bounds_width) := ⟨rfl, rfl, rfl, by decide +kernel, rfl, by decide +kernel, by decide +kernel⟩

abbrev s_Bounds_holds : Stmt := inClass (topS 9) 4
abbrev n_Bounds_holds : List Str := ["self", "other"]
theorem sc_Bounds_holds : FnScope n_Bounds_holds ["self", "other"] (defScope s_Bounds_holds) := ⟨rfl, rfl, rfl, by decide +kernel, rfl, by decide +kernel, by decide +kernel⟩

abbrev s_Bounds___contains__ : Stmt := inClass (topS 9) 5
abbrev n_Bounds___contains__ : List Str := ["self", "value"]
theorem sc_Bounds___contains__ : FnScope n_Bounds___contains__ ["self", "value"] (defScope s_Bounds___contains__) := ⟨rfl, rfl, rfl, by decide +kernel, rfl, by decide +kernel, by decide +kernel⟩

abbrev s_Bounds___eq__ : Stmt := inClass (topS 9) 6
abbrev n_Bounds___eq__ : List Str := ["self", "other"]
theorem sc_Bounds___eq__ : FnScope n_Bounds___eq__ ["self", "other"] (defScope s_Bounds___eq__) := ⟨rfl, rfl, rfl, by decide +kernel, rfl, by decide +kernel, by decide +kernel⟩

abbrev s_Bounds___and__ : Stmt := inClass (topS 9) 7
abbrev n_Bounds___and__ : List Str := ["self", "other", "low", "high"]
theorem sc_Bounds___and__ : FnScope n_Bounds___and__ ["self", "other"] (defScope s_Bounds___and__) := ⟨rfl, rfl, rfl, by decide +kernel, rfl, by decide +kernel, by decide +kernel⟩

abbrev s_Bounds___neg__ : Stmt := inClass (topS 9) 8
abbrev n_Bounds___neg__ : List Str := ["self"]
theorem sc_Bounds___neg__ : FnScope n_Bounds___neg__ ["self"] (defScope s_Bounds___neg__) := ⟨rfl, rfl, rfl, by decide +kernel, rfl, by decide +kernel, by decide +kernel⟩

/-- Bounds at a -/
structure Bd (C : Addr) (H : Hp) (a : Addr) (l h : Int) : Prop where
  ex : ∃ dx, H a = some (.ins C dx [("low", .int l), ("high", .int h)])
  lo : -1000000000000 ≤ l
  le : l ≤ h
  hi : h ≤ 1000000000000
/-- what of the class is fixed -/
structure BdK (K : PySem.W.Frag) (C : Addr) : Prop where
  cls : Cls K C
  nl : NoAttr K C "low"
  nh : NoAttr K C "high"
theorem Bd.mono {C : Addr} {H H' : Hp} {a : Addr} {l h : Int} (b : Bd C H a l h) (s : Same H H') : Bd C H' a l h := by
  obtain ⟨dx, e⟩ := b.ex
  exact ⟨⟨dx, s _ _ e⟩, b.lo, b.le, b.hi⟩
theorem Kd.mono {K : PySem.W.Frag} {H H' : Hp} {v : V} {t : String} (k : Kd K H v t) (s : Same H H') : Kd K H' v t := by
  cases k with
  | non => exact .non
  | bl b => exact .bl b
  | int i => exact .int i
  | str z h => exact .str z h
  | lst e => exact .lst (s _ _ e)
  | tup e => exact .tup (s _ _ e)
  | dK e => exact .dK (s _ _ e)
theorem isHt_int {v : V} (h : isHt v = true) : ∃ i, v = .int i ∧ -1000000000000 ≤ i ∧ i ≤ 1000000000000 := by
  cases v with
  | int i => exact ⟨i, rfl, of_decide_eq_true h⟩
  | _ => cases h
/-- how a making of Bounds may end -/
structure BEnds (CH CI : Addr) (u v : V) (H : Hp) (E : XK) (T : Int → Int → Prop) : Prop where
  e1 : isHt u = false → ∀ d H', Same H H' → H' d = some (.xd [("value", u)]) → E (.ref CH) (some d) H'
  e2 : isHt u = true → isHt v = false → ∀ d H', Same H H' → H' d = some (.xd [("value", v)]) → E (.ref CH) (some d) H'
  e3 : ∀ l h, u = .int l → v = .int h → isHt u = true → isHt v = true → h < l → ∀ d H', Same H H' → H' d = some (.xd [("high", v), ("low", u)]) → E (.ref CI) (some d) H'
  ok : ∀ l h, u = .int l → v = .int h → -1000000000000 ≤ l → l ≤ h → h ≤ 1000000000000 → T l h
def sp_binit (K : PySem.W.Frag) (C CH CI : Addr) : Sp := fun vs H Q E => ∃ x dx u v tu tv, vs = [.ref x, u, v] ∧ H x = some (.ins C dx []) ∧ Kd K H u tu ∧ Kd K H v tv ∧
  BEnds CH CI u v H E fun l h => Q .non (upd H x (.ins C dx [("low", .int l), ("high", .int h)]))
def sp_exact (K : PySem.W.Frag) (C CH CI : Addr) : Sp := fun vs H Q E => ∃ v t, vs = [.ref C, v] ∧ Kd K H v t ∧ BEnds CH CI v v H E fun l _ => ∀ x H', Same H H' → Bd C H' x l l → Q (.ref x) H'
def sp_width (C : Addr) : Sp := fun vs H Q _ => ∃ a l h, vs = [.ref a] ∧ Bd C H a l h ∧ Q (.int (h - l)) H
def sp_holds (C : Addr) : Sp := fun vs H Q _ => ∃ a b l h l' h', vs = [.ref a, .ref b] ∧ Bd C H a l h ∧ Bd C H b l' h' ∧ Q (.bl (decide (l ≤ l' ∧ h' ≤ h))) H
def inB (l h : Int) : V → Bool
  | .int i => decide (l ≤ i ∧ i ≤ h)
  | _ => false
def sp_bin (K : PySem.W.Frag) (C : Addr) : Sp := fun vs H Q _ => ∃ a l h v t, vs = [.ref a, v] ∧ Bd C H a l h ∧ Kd K H v t ∧ Q (.bl (inB l h v)) H
def sp_beq (K : PySem.W.Frag) (C : Addr) : Sp := fun vs H Q _ => ∃ a l h v, vs = [.ref a, v] ∧ Bd C H a l h ∧
  ((∃ t, TyX K H v t ∧ PySem.W.kitOne K t (.ref C) = some false ∧ Q (.bl false) H) ∨ ∃ b l' h', v = .ref b ∧ Bd C H b l' h' ∧ TyX K H v (.ref C) ∧ PySem.W.kitOne K (.ref C) (.ref C) = some true ∧ Q (.bl (decide (l = l' ∧ h = h'))) H)
def sp_band (C CC : Addr) : Sp := fun vs H Q E => ∃ a b l h l' h', vs = [.ref a, .ref b] ∧ Bd C H a l h ∧ Bd C H b l' h' ∧
  (min h h' < max l l' → ∀ d H', Same H H' → H' d = some (.xd [("other", .ref b), ("one", .ref a)]) → E (.ref CC) (some d) H') ∧ (max l l' ≤ min h h' → ∀ x H', Same H H' → Bd C H' x (max l l') (min h h') → Q (.ref x) H')
def sp_bneg (C : Addr) : Sp := fun vs H Q _ => ∃ a l h, vs = [.ref a] ∧ Bd C H a l h ∧ ∀ x H', Same H H' → Bd C H' x (-h) (-l) → Q (.ref x) H'
theorem e_mkB {K : PySem.W.Frag} {C CH CI : Addr} {u v : V} {tu tv : String} {H : Hp} {E : XK} {Q : VK} (ku : Kd K H u tu) (kv : Kd K H v tv) (h : BEnds CH CI u v H E fun l h => ∀ x H', Same H H' → Bd C H' x l h → Q (.ref x) H') : Ow.MakeK C (sp_binit K C CH CI) E Q [u, v] H := by
  intro x dx hx hdx hne
  have s : Same H (upd (upd H dx (.own x)) x (.ins C dx [])) := fun b o e => by
    rw [upd_ne (ne_of_none e hx), upd_ne (ne_of_none e hdx)]
    exact e
  refine ⟨x, dx, u, v, tu, tv, rfl, upd_same, ku.mono s, kv.mono s, fun a d H' s' e => h.e1 a d H' (s.trans s') e, fun a b d H' s' e => h.e2 a b d H' (s.trans s') e, fun l h' a b c e f d H' s' g => h.e3 l h' a b c e f d H' (s.trans s') g, fun l h' a b c e f => ⟨rfl, h.ok l h' a b c e f x _ (fun b o e => ?_) ⟨⟨dx, upd_same⟩, c, e, f⟩⟩⟩
  rw [upd_upd, upd_ne (ne_of_none e hx), upd_ne (ne_of_none e hdx)]
  exact e
theorem e_mkB1 {K : PySem.W.Frag} {C CH CI : Addr} {l h : Int} {H : Hp} {E : XK} {Q : VK} (c1 : -1000000000000 ≤ l) (c2 : l ≤ h) (c3 : h ≤ 1000000000000) (k : ∀ x H', Same H H' → Bd C H' x l h → Q (.ref x) H') : Ow.MakeK C (sp_binit K C CH CI) E Q [.int l, .int h] H :=
  e_mkB (.int l) (.int h) ⟨fun e => absurd (of_decide_eq_false e) (by omega), fun _ e => absurd (of_decide_eq_false e) (by omega), fun l' h' e1 e2 _ _ e3 => by cases e1; cases e2; omega, fun l' h' e1 e2 _ _ _ => by cases e1; cases e2; exact k⟩
section
variable {P : Program} {w : World} {K : PySem.W.Frag} {mg : Str → Option Value} {base : Heap} {mt : Tok} {CB CH CI CC : Addr}
theorem ok_binit {f : Addr} {fd : FuncData} (F : Fun K "__init__" "Bounds.__init__" s_Bounds___init__ f fd) (B : Bt mg mt CB) (T : BdK K CB) (G_is_height : Vc.FnG P w K mg base CX0 1 "is_height" ["value"] (sp_is_height K))
    (X_InvalidHeight : Xs.ExT P w K mg base "InvalidHeight" CH ["value"]) (X_InvalidBounds : Xs.ExT P w K mg base "InvalidBounds" CI ["low", "high"]) : FnOk P w K mg base (Ow.Cxx P w) 3 f fd ["self", "low", "high"] (sp_binit K CB CH CI) := by
  refine F.okX sc_Bounds___init__ (fun vs H Q E h => ?_) (fun cdv A outer s H vs Q E hr h => ?_)
  · obtain ⟨x, dx, u, v, tu, tv, rfl, _⟩ := h
    rfl
  · obtain ⟨x, dx, u, v, tu, tv, rfl, hx, ku, kv, k⟩ := h
    refine ⟨_, (pss_cons (ps_if (pt_not (pt_val (Vc.pe_callG G_is_height hr (by decide) rfl pass0 (pa_cons (pv 1) pa_nil)))) (pss_one (Xs.ps_raiseX X_InvalidHeight hr (by decide) rfl (takes_of rfl rfl rfl rfl) rfl (pa_cons (pv 1) pa_nil))) pss_nil)
      (pss_cons (ps_if (pt_not (pt_val (Vc.pe_callG G_is_height hr (by decide) rfl pass0 (pa_cons (pv 2) pa_nil)))) (pss_one (Xs.ps_raiseX X_InvalidHeight hr (by decide) rfl (takes_of rfl rfl rfl rfl) rfl (pa_cons (pv 2) pa_nil))) pss_nil)
      (pss_cons (ps_if (pt_cmpR Vc.op_gtU (pv 1) (pv 2) (nomark _)) (pss_one (Xs.ps_raiseX X_InvalidBounds hr (by decide) rfl (takes_of rfl rfl rfl rfl) rfl (pa_cons (pv 1) (pa_cons (pv 2) pa_nil)))) pss_nil)
      (pss_cons (Ow.ps_fldK K (pv 0) (pv 1) rfl)
      (pss_one (Ow.ps_fldK K (pv 0) (pv 2) rfl)))))), ?_⟩
    refine Vc.v_start (σ' := [some (.ref x), some u, some v]) rfl ?_
    walk_at "w"
    refine ⟨u, tu, rfl, ku, ?_⟩
    walk_at "w"
    refine Vc.v_iteB (fun h1 => ?_) (fun h1 => ?_)
    · walk_at "w"
      refine Xs.e_raise rfl (by decide) fun d hd => ?_
      exact k.e1 (by simpa using h1) d _ (fun b o e => Vc.h_new hd e) upd_same
    walk_at "w"
    refine ⟨v, tv, rfl, kv, ?_⟩
    walk_at "w"
    refine Vc.v_iteB (fun h2 => ?_) (fun h2 => ?_)
    · walk_at "w"
      refine Xs.e_raise rfl (by decide) fun d hd => ?_
      exact k.e2 (by simpa using h1) (by simpa using h2) d _ (fun b o e => Vc.h_new hd e) upd_same
    obtain ⟨i, rfl, hi0, hi1⟩ := isHt_int (v := u) (by simpa using h1)
    obtain ⟨j, rfl, hj0, hj1⟩ := isHt_int (v := v) (by simpa using h2)
    walk_at "w"
    refine Vc.v_iteD (fun h3 => ?_) (fun h3 => ?_)
    · walk_at "w"
      refine Xs.e_raise rfl (by decide) fun d hd => ?_
      exact k.e3 i j rfl rfl (by simpa using h1) (by simpa using h2) h3 d _ (fun b o e => Vc.h_new hd e) upd_same
    walk_at "w"
    refine ⟨x, CB, dx, _, rfl, hx, T.cls, T.nl, by decide, ?_⟩
    walk_at "w"
    refine ⟨x, CB, dx, _, rfl, upd_same, T.cls, T.nh, (by show 1 < 1000; decide), ?_⟩
    rw [upd_upd]
    exact k.ok i j rfl rfl hi0 (by omega) hj1
theorem ok_exact {f fI : Addr} {fd : FuncData} (F : Fun K "exact" "Bounds.exact" s_Bounds_exact f fd) (M_Bounds : Mk K CB fI) (F_Bounds : Ow.Fr P w K mg base 3 fI (sp_binit K CB CH CI)) : FnOk P w K mg base (Ow.Cxx P w) 5 f fd ["cls", "height"] (sp_exact K CB CH CI) := by
  refine F.okX sc_Bounds_exact (fun vs H Q E h => ?_) (fun cdv A outer s H vs Q E hr h => ?_)
  · obtain ⟨v, t, rfl, _⟩ := h
    rfl
  · obtain ⟨v, t, rfl, hv, k⟩ := h
    refine ⟨_, (pss_one (ps_ret (Ow.pe_makeLW (i := 0) M_Bounds F_Bounds rfl (Or.inl rfl) hr (by decide) (takes_of rfl rfl rfl rfl) (pa_cons (pv 1) (pa_cons (pv 1) pa_nil))))), ?_⟩
    refine Vc.v_start (σ' := [some (.ref CB), some v]) rfl ?_
    walk_at "w"
    refine Ow.w_makeL rfl ?_
    walk_at "w"
    refine e_mkB hv hv ⟨k.e1, fun a b => absurd (a.symm.trans b) (by decide), fun l h a b _ _ c => ?_, fun l h a b c d e x H' => ?_⟩
    · rw [a] at b
      cases b
      omega
    · have b' := b
      rw [a] at b'
      cases b'
      exact k.ok l l a a c d e x H'
theorem ok_width {f : Addr} {fd : FuncData} (F : Fun K "width" "Bounds.width" s_Bounds_width f fd) (T : BdK K CB) : FnOk P w K mg base CX0 1 f fd ["self"] (sp_width CB) := by
  refine F.ok sc_Bounds_width (fun vs H Q E h => ?_) (fun cdv A outer s H vs Q E hr h => ?_)
  · obtain ⟨v, t, l, rfl, _⟩ := h
    rfl
  · obtain ⟨a, l, h, rfl, hb, k⟩ := h
    obtain ⟨dx, e⟩ := hb.ex
    refine ⟨_, (pss_one (ps_ret (pe_op op_sub (Ow.pe_fldK K (pv 0) rfl) (Ow.pe_fldK K (pv 0) rfl)))), ?_⟩
    refine Vc.v_start (σ' := [some (.ref a)]) rfl ?_
    walk_at "w"
    refine ⟨_, _, _, _, _, rfl, e, T.cls, T.nh, rfl, ?_⟩
    walk_at "w"
    refine ⟨_, _, _, _, _, rfl, e, T.cls, T.nl, rfl, ?_⟩
    walk_at "w"
    exact k
theorem ok_holds {f : Addr} {fd : FuncData} (F : Fun K "holds" "Bounds.holds" s_Bounds_holds f fd) (T : BdK K CB) : FnOk P w K mg base CX0 1 f fd ["self", "other"] (sp_holds CB) := by
  refine F.ok sc_Bounds_holds (fun vs H Q E h => ?_) (fun cdv A outer s H vs Q E hr h => ?_)
  · obtain ⟨v, t, l, h, l', h', rfl, _⟩ := h
    rfl
  · obtain ⟨a, b, l, h, l', h', rfl, ha, hb, k⟩ := h
    obtain ⟨dx, e⟩ := ha.ex
    obtain ⟨dy, e'⟩ := hb.ex
    refine ⟨_, (pss_one (ps_ret (pe_and (pe_cmpR Vc.op_leU (Ow.pe_fldK K (pv 0) rfl) (Ow.pe_fldK K (pv 1) rfl) (nomark _)) (pe_one (pe_cmpR Vc.op_leU (Ow.pe_fldK K (pv 1) rfl) (Ow.pe_fldK K (pv 0) rfl) (nomark _)))))), ?_⟩
    refine Vc.v_start (σ' := [some (.ref a), some (.ref b)]) rfl ?_
    walk_at "w"
    refine ⟨_, _, _, _, _, rfl, e, T.cls, T.nl, rfl, ?_⟩
    walk_at "w"
    refine ⟨_, _, _, _, _, rfl, e', T.cls, T.nl, rfl, ?_⟩
    walk_at "w"
    refine Vc.v_iteD (fun h1 => ?_) (fun h1 => ?_)
    · walk_at "w"
      refine ⟨_, _, _, _, _, rfl, e', T.cls, T.nh, rfl, ?_⟩
      walk_at "w"
      refine ⟨_, _, _, _, _, rfl, e, T.cls, T.nh, rfl, ?_⟩
      walk_at "w"
      have e : decide (h' ≤ h) = decide (l ≤ l' ∧ h' ≤ h) := by
        rw [decide_eq_decide]
        omega
      rw [e]
      exact k
    · rw [decide_eq_false (by omega)] at k
      exact k
theorem ok_bin {f : Addr} {fd : FuncData} (F : Fun K "__contains__" "Bounds.__contains__" s_Bounds___contains__ f fd) (T : BdK K CB) (G_is_height : Vc.FnG P w K mg base CX0 1 "is_height" ["value"] (sp_is_height K)) : FnOk P w K mg base CX0 2 f fd ["self", "value"] (sp_bin K CB) := by
  refine F.ok sc_Bounds___contains__ (fun vs H Q E h => ?_) (fun cdv A outer s H vs Q E hr h => ?_)
  · obtain ⟨v, t, l, h, u, rfl, _⟩ := h
    rfl
  · obtain ⟨a, l, h, v, ty, rfl, ha, hv, k⟩ := h
    obtain ⟨dx, e⟩ := ha.ex
    refine ⟨_, (pss_one (ps_ret (pe_and (Vc.pe_callG G_is_height hr (by decide) rfl pass0 (pa_cons (pv 1) pa_nil)) (pe_one (pe_chain Vc.op_leU Vc.op_leU (Ow.pe_fldK K (pv 0) rfl) (pv 1) (Ow.pe_fldK K (pv 0) rfl)))))), ?_⟩
    refine Vc.v_start (σ' := [some (.ref a), some v]) rfl ?_
    walk_at "w"
    refine ⟨v, ty, rfl, hv, ?_⟩
    walk_at "w"
    refine Vc.v_iteB (fun h1 => ?_) (fun h1 => ?_)
    · obtain ⟨i, rfl, hi0, hi1⟩ := isHt_int h1
      walk_at "w"
      refine ⟨_, _, _, _, _, rfl, e, T.cls, T.nl, rfl, ?_⟩
      walk_at "w"
      refine Vc.v_iteD (fun h2 => ?_) (fun h2 => ?_)
      · walk_at "w"
        refine ⟨_, _, _, _, _, rfl, e, T.cls, T.nh, rfl, ?_⟩
        walk_at "w"
        have e : decide (i ≤ h) = inB l h (.int i) := by
          unfold inB
          rw [decide_eq_decide]
          omega
        rw [e]
        exact k
      · have e : false = inB l h (.int i) := by
          unfold inB
          rw [eq_comm, decide_eq_false_iff_not]
          omega
        rw [e]
        exact k
    · have e : false = inB l h v := by
        cases v with
        | int i =>
          unfold isHt at h1
          have h2 := of_decide_eq_false h1
          unfold inB
          rw [eq_comm, decide_eq_false_iff_not]
          have := ha.lo
          have := ha.hi
          omega
        | _ => rfl
      rw [e]
      exact k
theorem ok_beq {f : Addr} {fd : FuncData} (F : Fun K "__eq__" "Bounds.__eq__" s_Bounds___eq__ f fd) (B : Bt mg mt CB) (T : BdK K CB) : FnOk P w K mg base CX0 1 f fd ["self", "other"] (sp_beq K CB) := by
  refine F.ok sc_Bounds___eq__ (fun vs H Q E h => ?_) (fun cdv A outer s H vs Q E hr h => ?_)
  · obtain ⟨a, l, h, v, rfl, _⟩ := h
    rfl
  · obtain ⟨a, l, h, v, rfl, ha, k⟩ := h
    obtain ⟨dx, e⟩ := ha.ex
    refine ⟨_, (pss_one (ps_ret (pe_and (pe_callB (Vc.call_isiU K) (by rfl) B.b_isinstance (by decide +kernel) (pa_cons (pv 1) (pa_cons (pe_glob (v := .ref _) rfl B.c_Bounds rfl) pa_nil))) (pe_and (pe_cmpR (Vc.op_eqU K hr) (Ow.pe_fldK K (pv 0) rfl) (Ow.pe_fldK K (pv 1) rfl) (nomark _)) (pe_one (pe_cmpR (Vc.op_eqU K hr) (Ow.pe_fldK K (pv 0) rfl) (Ow.pe_fldK K (pv 1) rfl) (nomark _))))))), ?_⟩
    refine Vc.v_start (σ' := [some (.ref a), some v]) rfl ?_
    walk_at "w"
    rcases k with ⟨t, ht, hk, k⟩ | ⟨b, l', h', rfl, hb, ht, hk, k⟩
    · refine Vc.v_isi (.own CB) ht hk ?_
      walk_at "w"
      exact k
    · refine Vc.v_isi (.own CB) ht hk ?_
      obtain ⟨dy, e'⟩ := hb.ex
      walk_at "w"
      refine ⟨_, _, _, _, _, rfl, e, T.cls, T.nl, rfl, ?_⟩
      walk_at "w"
      refine ⟨_, _, _, _, _, rfl, e', T.cls, T.nl, rfl, ?_⟩
      refine Vc.v_eqU rfl ?_
      walk_at "w"
      refine Vc.v_iteD (fun h1 => ?_) (fun h1 => ?_)
      · walk_at "w"
        refine ⟨_, _, _, _, _, rfl, e, T.cls, T.nh, rfl, ?_⟩
        walk_at "w"
        refine ⟨_, _, _, _, _, rfl, e', T.cls, T.nh, rfl, ?_⟩
        refine Vc.v_eqU rfl ?_
        have e : decide (V.int h = .int h') = decide (l = l' ∧ h = h') := by
          cases h1
          rw [decide_eq_decide, V.int.injEq]
          exact ⟨fun z => ⟨rfl, z⟩, fun z => z.2⟩
        rw [e]
        exact k
      · rw [decide_eq_false (fun z => h1 (by rw [z.1]))] at k
        exact k
theorem ok_band {f fI : Addr} {fd : FuncData} (F : Fun K "__and__" "Bounds.__and__" s_Bounds___and__ f fd) (B : Bt mg mt CB) (T : BdK K CB) (M_Bounds : Mk K CB fI) (F_Bounds : Ow.Fr P w K mg base 3 fI (sp_binit K CB CH CI))
    (X_Contradiction : Xs.ExT P w K mg base "Contradiction" CC ["one", "other"]) : FnOk P w K mg base (Ow.Cxx P w) 5 f fd ["self", "other"] (sp_band CB CC) := by
  refine F.okX sc_Bounds___and__ (fun vs H Q E h => ?_) (fun cdv A outer s H vs Q E hr h => ?_)
  · obtain ⟨v, t, l, h, l', h', rfl, _⟩ := h
    rfl
  · obtain ⟨a, b, l, h, l', h', rfl, ha, hb, k1, k2⟩ := h
    obtain ⟨dx, e⟩ := ha.ex
    obtain ⟨dy, e'⟩ := hb.ex
    refine ⟨_, (pss_cons (ps_set (i := 2) sc_Bounds___and__.nd rfl (Or.inl rfl) (pe_callB (Vc.call_maxU K rfl) (by rfl) B.b_max (by decide +kernel) (pa_cons (Ow.pe_fldK K (pv 0) rfl) (pa_cons (Ow.pe_fldK K (pv 1) rfl) pa_nil))))
      (pss_cons (ps_set (i := 3) sc_Bounds___and__.nd rfl (Or.inl rfl) (pe_callB (Vc.call_minU K rfl) (by rfl) B.b_min (by decide +kernel) (pa_cons (Ow.pe_fldK K (pv 0) rfl) (pa_cons (Ow.pe_fldK K (pv 1) rfl) pa_nil))))
      (pss_cons (ps_if (pt_cmpR Vc.op_gtU (pv 2) (pv 3) (nomark _)) (pss_one (Xs.ps_raiseX X_Contradiction hr (by decide) rfl (takes_of rfl rfl rfl rfl) rfl (pa_cons (pv 0) (pa_cons (pv 1) pa_nil)))) pss_nil)
      (pss_one (ps_ret (Ow.pe_makeW M_Bounds F_Bounds B.c_Bounds hr (by decide) rfl (takes_of rfl rfl rfl rfl) (pa_cons (pv 2) (pa_cons (pv 3) pa_nil)))))))), ?_⟩
    refine Vc.v_start (σ' := [some (.ref a), some (.ref b), none, none]) rfl ?_
    walk_at "w"
    refine ⟨_, _, _, _, _, rfl, e, T.cls, T.nl, rfl, ?_⟩
    walk_at "w"
    refine ⟨_, _, _, _, _, rfl, e', T.cls, T.nl, rfl, ?_⟩
    walk_at "w"
    refine ⟨_, _, _, _, _, rfl, e, T.cls, T.nh, rfl, ?_⟩
    walk_at "w"
    refine ⟨_, _, _, _, _, rfl, e', T.cls, T.nh, rfl, ?_⟩
    walk_at "w"
    have e1 : (if l' > l then l' else l) = max l l' := by omega
    have e2 : (if h' < h then h' else h) = min h h' := by omega
    rw [e1, e2]
    have := ha.lo; have := ha.hi; have := hb.lo; have := hb.hi
    refine Vc.v_iteD (fun h1 => ?_) (fun h1 => ?_)
    · walk_at "w"
      refine Xs.e_raise rfl (by decide) fun d hd => ?_
      exact k1 h1 d _ (fun b o e => Vc.h_new hd e) upd_same
    · walk_at "w"
      exact e_mkB1 (by omega) (by omega) (by omega) (k2 (by omega))
theorem ok_bneg {f fI : Addr} {fd : FuncData} (F : Fun K "__neg__" "Bounds.__neg__" s_Bounds___neg__ f fd) (B : Bt mg mt CB) (T : BdK K CB) (M_Bounds : Mk K CB fI) (F_Bounds : Ow.Fr P w K mg base 3 fI (sp_binit K CB CH CI)) : FnOk P w K mg base CX0 5 f fd ["self"] (sp_bneg CB) := by
  refine F.ok sc_Bounds___neg__ (fun vs H Q E h => ?_) (fun cdv A outer s H vs Q E hr h => ?_)
  · obtain ⟨v, t, l, rfl, _⟩ := h
    rfl
  · obtain ⟨a, l, h, rfl, ha, k⟩ := h
    obtain ⟨dx, e⟩ := ha.ex
    refine ⟨_, (pss_one (ps_ret (Ow.pe_makeW M_Bounds F_Bounds B.c_Bounds hr (by decide) rfl takes0 (pa_cons (pe_un un_neg (Ow.pe_fldK K (pv 0) rfl)) (pa_cons (pe_un un_neg (Ow.pe_fldK K (pv 0) rfl)) pa_nil))))), ?_⟩
    refine Vc.v_start (σ' := [some (.ref a)]) rfl ?_
    walk_at "w"
    refine ⟨_, _, _, _, _, rfl, e, T.cls, T.nh, rfl, ?_⟩
    walk_at "w"
    refine ⟨_, _, _, _, _, rfl, e, T.cls, T.nl, rfl, ?_⟩
    walk_at "w"
    have := ha.lo; have := ha.hi; have := ha.le
    exact e_mkB1 (by omega) (by omega) (by omega) k
end

theorem neSame {K : PySem.W.Frag} {H : Hp} {x y : V} {d : PyData} {Q : VK} (h1 : Dp K H x d) (h2 : Dp K H y d) (s : SeqAt.shaped d = true) (e : PyData.eqv d d = true) (q : Q (.bl false) H) : Vc.rNeU K x y H Q := Vc.v_neD h1 h2 s s (by rw [e]; exact q)
theorem eqSame {K : PySem.W.Frag} {H : Hp} {x y : V} {d : PyData} {Q : VK} (h1 : Dp K H x d) (h2 : Dp K H y d) (s : SeqAt.shaped d = true) (e : PyData.eqv d d = true) (q : Q (.bl true) H) : Vc.rEqU K x y H Q := Vc.v_eqD h1 h2 s s (by rw [e]; exact q)
theorem sameT {K : PySem.W.Frag} {H H' : Hp} {a : Addr} {xs : List V} (e : Same H H') (h : SqT K H a xs) : SqT K H' a xs := by
  rcases h with (h | ⟨o, h⟩) | h
  · exact .inl (.inl (e _ _ h))
  · exact .inl (.inr ⟨o, e _ _ h⟩)
  · exact .inr h
mutual
theorem dp_mono {K : PySem.W.Frag} {H H' : Hp} (s : Same H H') : ∀ {v : V} {d : PyData}, Dp K H v d → Dp K H' v d
  | _, _, .non => .non
  | _, _, .bl b => .bl b
  | _, _, .int i => .int i
  | _, _, .str x => .str x
  | _, _, .lst a b => .lst (s.seq a) (dpAll_mono s b)
  | _, _, .tup a b => .tup (sameT s a) (dpAll_mono s b)
theorem dpAll_mono {K : PySem.W.Frag} {H H' : Hp} (s : Same H H') : ∀ {v : List V} {d : List PyData}, DpAll K H v d → DpAll K H' v d
  | _, _, .nil => .nil
  | _, _, .cons a b => .cons (dp_mono s a) (dpAll_mono s b)
end
theorem dp_ints {K : PySem.W.Frag} {H : Hp} : ∀ {xs : List Int}, DpAll K H (xs.map V.int) (xs.map PyData.int)
  | [] => .nil
  | x :: xs => .cons (.int x) dp_ints
theorem eqvAll_ints : ∀ xs ys : List Int, PyData.eqvAll (xs.map PyData.int) (ys.map PyData.int) = decide (xs = ys)
  | [], [] => rfl
  | [], y :: ys => rfl
  | x :: xs, [] => rfl
  | x :: xs, y :: ys => by
    rw [List.map_cons, List.map_cons]
    show ((x == y) && PyData.eqvAll (xs.map PyData.int) (ys.map PyData.int)) = _
    rw [eqvAll_ints xs ys, Bool.eq_iff_iff]
    simp
/-- two laid lists of the same ints -/
theorem neInts {K : PySem.W.Frag} {H : Hp} {p q : Addr} {Q : VK} {xs ys : List V} (zs : List Int) (h1 : SqL K H p xs) (h2 : SqL K H q ys) (e1 : xs = zs.map V.int) (e2 : ys = zs.map V.int) (hs : SeqAt.shaped (.list (zs.map PyData.int)) = true) (k : Q (.bl false) H) : Vc.rNeU K (.ref p) (.ref q) H Q := by
  subst e1 e2
  exact neSame (.lst h1 dp_ints) (.lst h2 dp_ints) hs (by show PyData.eqvAll _ _ = true; rw [eqvAll_ints, decide_eq_true rfl]) k
theorem same_new {H : Hp} {p : Addr} {o : HO} (h : H p = none) : Same H (upd H p o) := fun _ _ e => Vc.h_new h e
theorem BoxAt.mono {H H' : Hp} {b : Addr} {n : Nat} (k : BoxAt H b n) (s : Same H H') : BoxAt H' b n := by
  obtain ⟨g, r, c, e, q⟩ := k.ex
  exact ⟨g, r, c, s _ _ e, q⟩
theorem BoxAt.ne {H : Hp} {b a : Addr} {n : Nat} (k : BoxAt H b n) (h : H a = none) : a ≠ b := by
  obtain ⟨g, r, c, e, _⟩ := k.ex
  exact (ne_of_none e h).symm
/-- a and b, where neither changes a thing -/
theorem v_andP {p q : Prop} [Decidable p] [Decidable q] {ta tb : TE} {σ : L2.St} {H : Hp} {Q : VK} (ha : ∀ Q : VK, Q (.bl (decide p)) H → ta σ H Q) (hb : ∀ Q : VK, Q (.bl (decide q)) H → tb σ H Q) (h : Q (.bl (decide (p ∧ q))) H) : tAndV ta tb σ H Q := by
  refine ha _ ⟨_, rfl, ?_⟩
  refine Vc.v_iteD (fun h1 => ?_) (fun h1 => ?_)
  · refine hb _ ?_
    have e : decide q = decide (p ∧ q) := by
      rw [decide_eq_decide]
      exact ⟨fun z => ⟨h1, z⟩, fun z => z.2⟩
    rw [e]
    exact h
  · rw [decide_eq_false (fun z => h1 z.1)] at h
    exact h
theorem neStr {K : PySem.W.Frag} {H : Hp} {x : Str} {Q : VK} (k : Q (.bl false) H) : Vc.rNeU K (.str x) (.str x) H Q := Vc.v_neU rfl (by rw [decide_eq_true rfl]; exact k)
theorem eqT2 {K : PySem.W.Frag} {H : Hp} {p q : Addr} {a b c d : Int} {Q : VK} (h1 : H p = some (.tup [.int a, .int b])) (h2 : H q = some (.tup [.int c, .int d])) (k : Q (.bl (decide (a = c ∧ b = d))) H) : Vc.rEqU K (.ref p) (.ref q) H Q := by
  refine Vc.v_eqD (.tup (SqT.of h1) (.cons (.int a) (.cons (.int b) .nil))) (.tup (SqT.of h2) (.cons (.int c) (.cons (.int d) .nil))) rfl rfl ?_
  have e : PyData.eqv (.tuple [.int a, .int b]) (.tuple [.int c, .int d]) = decide (a = c ∧ b = d) := by
    show ((a == c) && ((b == d) && true)) = _
    rw [Bool.eq_iff_iff]
    simp
  rw [e]
  exact k

abbrev s__law_drawn : Stmt := topS 14
abbrev n__law_drawn : List Str := ["_law_box_here", "_law_scale"]
theorem sc__law_drawn : FnScope n__law_drawn ["_law_box_here"] (defScope s__law_drawn) := ⟨rfl, rfl, rfl, by decide +kernel, rfl, by decide +kernel, by decide +kernel⟩

abbrev s__law_refused : Stmt := topS 15
abbrev n__law_refused : List Str := ["_law_least", "_law_most", "e"]
theorem sc__law_refused : FnScope n__law_refused ["_law_least", "_law_most"] (defScope s__law_refused) := ⟨rfl, rfl, rfl, by decide +kernel, rfl, by decide +kernel, by decide +kernel⟩

abbrev s__law_common : Stmt := topS 16
abbrev n__law_common : List Str := ["_law_one", "_law_other", "_law_found", "e"]
theorem sc__law_common : FnScope n__law_common ["_law_one", "_law_other"] (defScope s__law_common) := ⟨rfl, rfl, rfl, by decide +kernel, rfl, by decide +kernel, by decide +kernel⟩

abbrev s__law_doors : Stmt := topS 17
abbrev n__law_doors : List Str := ["_law_box_here", "_law_a", "_law_b", "_law_wrong", "e"]
theorem sc__law_doors : FnScope n__law_doors ["_law_box_here", "_law_a", "_law_b"] (defScope s__law_doors) := ⟨rfl, rfl, rfl, by decide +kernel, rfl, by decide +kernel, by decide +kernel⟩

abbrev s__law_right : Stmt := topS 18
abbrev n__law_right : List Str := ["_law_a", "_law_b", "_law_c", "_law_d", "_law_one", "_law_two", "_law_due", "_law_number", "_law_turned"]
theorem sc__law_right : FnScope n__law_right ["_law_a", "_law_b", "_law_c", "_law_d"] (defScope s__law_right) := ⟨rfl, rfl, rfl, by decide +kernel, rfl, by decide +kernel, by decide +kernel⟩

abbrev s_law : Stmt := topS 19
abbrev n_law : List Str := ["_law_script", "_law_k", "_law_box_here", "_law_a", "_law_b", "_law_some"]
theorem sc_law : FnScope n_law ["_law_script"] (defScope s_law) := ⟨rfl, rfl, rfl, by decide +kernel, rfl, by decide +kernel, by decide +kernel⟩

def sp_drawn : Sp := fun vs H Q _ => ∃ b n, vs = [.ref b] ∧ BoxAt H b n ∧ n < 90000 ∧ ∀ d H', -1000000000000 ≤ d → d ≤ 1000000000000 → BoxAt H' b (n + 2) → Vc.But b H H' → Q (.int d) H'
def sp_refused (K : PySem.W.Frag) : Sp := fun vs H Q _ => ∃ u v tu tv, vs = [u, v] ∧ Kd K H u tu ∧ Kd K H v tv ∧
  (isHt u = false → ∀ p H', Same H H' → H' p = some (.tup [.str "height", u]) → Q (.ref p) H') ∧ (isHt u = true → isHt v = false → ∀ p H', Same H H' → H' p = some (.tup [.str "height", v]) → Q (.ref p) H') ∧
  (∀ l h, u = .int l → v = .int h → isHt u = true → isHt v = true → h < l → ∀ p H', Same H H' → H' p = some (.tup [.str "bounds", u, v]) → Q (.ref p) H') ∧ (∀ l h, u = .int l → v = .int h → isHt u = true → isHt v = true → l ≤ h → ∀ H', Same H H' → Q (.str "taken") H')
def sp_common (C : Addr) : Sp := fun vs H Q _ => ∃ a b l h l' h', vs = [.ref a, .ref b] ∧ Bd C H a l h ∧ Bd C H b l' h' ∧
  (min h h' < max l l' → ∀ p H', Same H H' → H' p = some (.tup [.str "none", .int l, .int h, .int l', .int h']) → Q (.ref p) H') ∧ (max l l' ≤ min h h' → ∀ p H', Same H H' → H' p = some (.tup [.int (max l l'), .int (min h h')]) → Q (.ref p) H')
section
variable {P : Program} {w : World} {K : PySem.W.Frag} {mg : Str → Option Value} {base : Heap} {mt : Tok} {CB CH CI CC : Addr}
theorem ok_drawn {f : Addr} {fd : FuncData} (F : Fun K "_law_drawn" "_law_drawn" s__law_drawn f fd) (G__law_take : Vc.FnG P w K mg base CX0 1 "_law_take" ["_law_box_here", "_law_many"] sp_take) : FnOk P w K mg base CX0 2 f fd ["_law_box_here"] sp_drawn := by
  refine F.ok sc__law_drawn (fun vs H Q E h => ?_) (fun cdv A outer s H vs Q E hr h => ?_)
  · obtain ⟨b, n, rfl, _⟩ := h
    rfl
  · obtain ⟨b, n, rfl, hb, hn, k⟩ := h
    refine ⟨_, (pss_cons (ps_set (i := 1) sc__law_drawn.nd rfl (Or.inl rfl) (pe_ix (Vc.ix_U K) (pe_lst (pa_cons pe_int (pa_cons pe_int (pa_cons (pe_op op_pow pe_int pe_int) pa_nil)))) (Vc.pe_callG G__law_take hr (by decide) rfl pass0 (pa_cons (pv 0) (pa_cons pe_int pa_nil))) (fun _ _ => rfl)))
      (pss_one (ps_ret (pe_op Vc.op_mulU (pe_op op_sub (Vc.pe_callG G__law_take hr (by decide) rfl pass0 (pa_cons (pv 0) (pa_cons pe_int pa_nil))) pe_int) (pv 1))))), ?_⟩
    refine Vc.v_start (σ' := [some (.ref b), none]) rfl ?_
    walk_at "w"
    refine Vc.v_powc (z := 100000000000) (by decide) (by decide) (by decide) (by decide) ?_
    walk_at "w"
    refine ⟨by walk_at "sz", fun p hp => ?_⟩
    walk_at "w"
    refine ⟨b, 3, n, rfl, hb.mono (same_new hp), by omega, by decide, by decide, fun d1 H1 d1a d1b hB1 k1 => ?_⟩
    have hl : H1 p = _ := k1.get (hb.ne hp) upd_same
    obtain ⟨sc, hsc, hs1⟩ : ∃ sc, atI [V.int 1, V.int 1, V.int 100000000000] d1 = some (.int sc) ∧ 1 ≤ sc ∧ sc ≤ 100000000000 := by
      rcases (by omega : d1 = 0 ∨ d1 = 1 ∨ d1 = 2) with h | h | h <;> subst h
      · exact ⟨1, rfl, by decide⟩
      · exact ⟨1, rfl, by decide⟩
      · exact ⟨100000000000, rfl, by decide⟩
    refine Vc.v_ixL (SqL.of hl) hsc ?_
    walk_at "w"
    refine ⟨b, 21, _, rfl, hB1, by omega, by decide, by decide, fun d2 H2 d2a d2b hB2 k2 => ?_⟩
    walk_at "w"
    refine Vc.v_mulI (.inr ⟨by omega, by omega⟩) ?_
    walk_at "w"
    refine k _ _ ?_ ?_ hB2 (((Vc.But.of (same_new hp)).trans k1).trans k2)
    · have : -10 * sc ≤ (d2 - 10) * sc := Int.mul_le_mul_of_nonneg_right (by omega) (by omega)
      omega
    · have : (d2 - 10) * sc ≤ 10 * sc := Int.mul_le_mul_of_nonneg_right (by omega) (by omega)
      omega
theorem ok_refused {f fI : Addr} {fd : FuncData} (F : Fun K "_law_refused" "_law_refused" s__law_refused f fd) (B : Bt mg mt CB) (M_Bounds : Mk K CB fI) (F_Bounds : Ow.Fr P w K mg base 3 fI (sp_binit K CB CH CI))
    (X_InvalidHeight : Xs.ExT P w K mg base "InvalidHeight" CH ["value"]) (X_InvalidBounds : Xs.ExT P w K mg base "InvalidBounds" CI ["low", "high"]) (hHH : PySem.W.exmOne K (.ref CH) (.ref CH) = some true) (hIH : PySem.W.exmOne K (.ref CI) (.ref CH) = some false) (hII : PySem.W.exmOne K (.ref CI) (.ref CI) = some true) :
    FnOk P w K mg base CX0 5 f fd ["_law_least", "_law_most"] (sp_refused K) := by
  refine F.ok sc__law_refused (fun vs H Q E h => ?_) (fun cdv A outer s H vs Q E hr h => ?_)
  · obtain ⟨u, v, tu, tv, rfl, _⟩ := h
    rfl
  · obtain ⟨u, v, tu, tv, rfl, ku, kv, k1, k2, k3, k4⟩ := h
    refine ⟨_, (pss_cons (Ow.ps_tryT K rfl rfl takes0 (fun W pn xe tk po => (pss_one (ps_expr (Ow.pe_makeW M_Bounds F_Bounds B.c_Bounds hr (by decide) rfl tk (pa_cons (pv 0) (pa_cons (pv 1) pa_nil))))))
      (Xs.ClsOk.as (i := 2) sc__law_refused.nd rfl rfl ⟨rfl, by decide, .inl X_InvalidHeight.gC⟩ (fun a oe cls d pn hz hd => (pss_one (ps_ret (pe_tup (pa_cons pe_str (pa_cons (pe_xf X_InvalidHeight.xf (X_InvalidHeight.no _ (by simp)) hz hd (pv 2)) pa_nil))))))
      (Xs.ClsOk.as (i := 2) sc__law_refused.nd rfl rfl ⟨rfl, by decide, .inl X_InvalidBounds.gC⟩ (fun a oe cls d pn hz hd => (pss_one (ps_ret (pe_tup (pa_cons pe_str (pa_cons (pe_xf X_InvalidBounds.xf (X_InvalidBounds.no _ (by simp)) hz hd (pv 2)) (pa_cons (pe_xf X_InvalidBounds.xf (X_InvalidBounds.no _ (by simp)) hz hd (pv 2)) pa_nil)))))))
      Xs.ClsOk.nil)))
      (pss_one (ps_ret pe_str))), ?_⟩
    refine Vc.v_start (σ' := [some u, some v, none]) rfl ?_
    walk_at "w"
    refine e_mkB ku kv ⟨fun h1 d H' s e => ?_, fun h1 h2 d H' s e => ?_, fun l h e1 e2 g1 g2 hlt d H' s e => ?_, fun l h e1 e2 g1 hle g2 x H' s hb => ?_⟩
    · refine Ow.w_hit hHH fun a ha => Ow.w_wishAs rfl ?_
      walk_at "w"
      refine ⟨rfl, d, _, _, rfl, e, rfl, ?_⟩
      walk_at "w"
      refine ⟨by walk_at "sz", fun p hp => ?_⟩
      exact k1 h1 p _ (s.trans (same_new hp)) upd_same
    · refine Ow.w_hit hHH fun a ha => Ow.w_wishAs rfl ?_
      walk_at "w"
      refine ⟨rfl, d, _, _, rfl, e, rfl, ?_⟩
      walk_at "w"
      refine ⟨by walk_at "sz", fun p hp => ?_⟩
      exact k2 h1 h2 p _ (s.trans (same_new hp)) upd_same
    · refine Ow.w_miss hIH (Ow.w_hit hII fun a ha => Ow.w_wishAs rfl ?_)
      walk_at "w"
      refine ⟨rfl, d, _, _, rfl, e, rfl, ?_⟩
      walk_at "w"
      refine ⟨rfl, d, _, _, rfl, e, rfl, ?_⟩
      walk_at "w"
      refine ⟨by walk_at "sz", fun p hp => ?_⟩
      exact k3 l h e1 e2 g1 g2 hlt p _ (s.trans (same_new hp)) upd_same
    · walk_at "w"
      exact k4 l h e1 e2 (by rw [e1]; exact decide_eq_true (by omega)) (by rw [e2]; exact decide_eq_true (by omega)) hle H' s
theorem ok_common {f fA : Addr} {fd : FuncData} (F : Fun K "_law_common" "_law_common" s__law_common f fd) (T : BdK K CB) (S_Bounds___and__ : Ow.Spec K CB "__and__" fA) (SF_Bounds : PySem.W.selfFirst K CB = true) (F_Bounds___and__ : Ow.Fr P w K mg base 5 fA (sp_band CB CC))
    (X_Contradiction : Xs.ExT P w K mg base "Contradiction" CC ["one", "other"]) (hCC : PySem.W.exmOne K (.ref CC) (.ref CC) = some true) : FnOk P w K mg base CX0 6 f fd ["_law_one", "_law_other"] (sp_common CB) := by
  refine F.ok sc__law_common (fun vs H Q E h => ?_) (fun cdv A outer s H vs Q E hr h => ?_)
  · obtain ⟨u, v, l, h, l', h', rfl, _⟩ := h
    rfl
  · obtain ⟨a, b, l, h, l', h', rfl, ha, hb, k1, k2⟩ := h
    obtain ⟨dx, e⟩ := ha.ex
    obtain ⟨dy, e'⟩ := hb.ex
    refine ⟨_, (pss_cons (Ow.ps_tryT K rfl rfl takes0 (fun W pn xe tk po => (pss_one (ps_set (i := 2) sc__law_common.nd rfl (Or.inl rfl) (Ow.pe_binW S_Bounds___and__ SF_Bounds F_Bounds___and__ hr (by decide) tk (pv 0) (pv 1)))))
      (Xs.ClsOk.as (i := 3) sc__law_common.nd rfl rfl ⟨rfl, by decide, .inl X_Contradiction.gC⟩ (fun a oe cls d pn hz hd => (pss_one (ps_ret (pe_tup (pa_cons pe_str (pa_cons (Ow.pe_fldK K (pe_xf X_Contradiction.xf (X_Contradiction.no _ (by simp)) hz hd (pv 3)) rfl) (pa_cons (Ow.pe_fldK K (pe_xf X_Contradiction.xf (X_Contradiction.no _ (by simp)) hz hd (pv 3)) rfl) (pa_cons (Ow.pe_fldK K (pe_xf X_Contradiction.xf (X_Contradiction.no _ (by simp)) hz hd (pv 3)) rfl) (pa_cons (Ow.pe_fldK K (pe_xf X_Contradiction.xf (X_Contradiction.no _ (by simp)) hz hd (pv 3)) rfl) pa_nil)))))))))
      Xs.ClsOk.nil))
      (pss_one (ps_ret (pe_tup (pa_cons (Ow.pe_fldK K (pv 2) rfl) (pa_cons (Ow.pe_fldK K (pv 2) rfl) pa_nil)))))), ?_⟩
    refine Vc.v_start (σ' := [some (.ref a), some (.ref b), none, none]) rfl ?_
    walk_at "w"
    refine ⟨a, b, dx, dy, _, _, rfl, rfl, e, e', a, b, l, h, l', h', rfl, ha, hb, fun h1 d H' s ed => ?_, fun h1 x H' s hx => ?_⟩
    · refine Ow.w_hit hCC fun z hz => Ow.w_wishAs rfl ?_
      walk_at "w"
      refine ⟨rfl, d, _, _, rfl, ed, rfl, ?_⟩
      refine ⟨_, _, _, _, _, rfl, s _ _ e, T.cls, T.nl, rfl, ?_⟩
      walk_at "w"
      refine ⟨rfl, d, _, _, rfl, ed, rfl, ?_⟩
      refine ⟨_, _, _, _, _, rfl, s _ _ e, T.cls, T.nh, rfl, ?_⟩
      walk_at "w"
      refine ⟨rfl, d, _, _, rfl, ed, rfl, ?_⟩
      refine ⟨_, _, _, _, _, rfl, s _ _ e', T.cls, T.nl, rfl, ?_⟩
      walk_at "w"
      refine ⟨rfl, d, _, _, rfl, ed, rfl, ?_⟩
      refine ⟨_, _, _, _, _, rfl, s _ _ e', T.cls, T.nh, rfl, ?_⟩
      walk_at "w"
      refine ⟨by walk_at "sz", fun p hp => ?_⟩
      exact k1 h1 p _ (s.trans (same_new hp)) upd_same
    · obtain ⟨dz, ez⟩ := hx.ex
      refine ⟨⟨x, rfl⟩, ?_⟩
      walk_at "w"
      refine ⟨_, _, _, _, _, rfl, ez, T.cls, T.nl, rfl, ?_⟩
      walk_at "w"
      refine ⟨_, _, _, _, _, rfl, ez, T.cls, T.nh, rfl, ?_⟩
      walk_at "w"
      refine ⟨by walk_at "sz", fun p hp => ?_⟩
      exact k2 h1 p _ (s.trans (same_new hp)) upd_same
/-- the values that are no heights -/
structure Wr (K : PySem.W.Frag) (H : Hp) (v : V) (t : String) (d : PyData) : Prop where
  kd : Kd K H v t
  no : isHt v = false
  dp : Dp K H v d
  sh : SeqAt.shaped d = true
  sh2 : SeqAt.shaped (.tuple [.str "height", d]) = true
  eq : PyData.eqv d d = true
theorem Wr.mono {H H' : Hp} {v : V} {t : String} {d : PyData} (h : Wr K H v t d) (s : Same H H') : Wr K H' v t d := ⟨h.kd.mono s, h.no, dp_mono s h.dp, h.sh, h.sh2, h.eq⟩
theorem wrong_at (K : PySem.W.Frag) {q : Addr} {d1 : Int} (h0 : 0 ≤ d1) (h1 : d1 < 7) : ∃ v t d, atI [V.non, .bl true, .str "3", .int (1000000000000 + 1), .int (-1000000000000 - 1), .ref q, .bl false] d1 = some v ∧ ∀ H, H q = some (.lst [.int 1]) → Wr K H v t d := by
  rcases (by omega : d1 = 0 ∨ d1 = 1 ∨ d1 = 2 ∨ d1 = 3 ∨ d1 = 4 ∨ d1 = 5 ∨ d1 = 6) with h | h | h | h | h | h | h <;> subst h
  · exact ⟨_, _, _, rfl, fun H hq => ⟨.non, rfl, .non, rfl, by decide +kernel, rfl⟩⟩
  · exact ⟨_, _, _, rfl, fun H hq => ⟨.bl true, rfl, .bl true, rfl, by decide +kernel, rfl⟩⟩
  · exact ⟨_, _, _, rfl, fun H hq => ⟨.str _ (by decide), rfl, .str _, by decide +kernel, by decide +kernel, by decide +kernel⟩⟩
  · exact ⟨_, _, _, rfl, fun H hq => ⟨.int _, by decide, .int _, by decide +kernel, by decide +kernel, by decide +kernel⟩⟩
  · exact ⟨_, _, _, rfl, fun H hq => ⟨.int _, by decide, .int _, by decide +kernel, by decide +kernel, by decide +kernel⟩⟩
  · exact ⟨_, _, _, rfl, fun H hq => ⟨.lst hq, rfl, .lst (SqL.of hq) (.cons (.int 1) .nil), by decide +kernel, by decide +kernel, by decide +kernel⟩⟩
  · exact ⟨_, _, _, rfl, fun H hq => ⟨.bl false, rfl, .bl false, rfl, by decide +kernel, rfl⟩⟩
theorem Wr.ne {H : Hp} {p q : Addr} {v : V} {t : String} {d : PyData} {Q : VK} (h : Wr K H v t d) (hp : H p = some (.tup [.str "height", v])) (hq : H q = some (.tup [.str "height", v])) (k : Q (.bl false) H) : Vc.rNeU K (.ref p) (.ref q) H Q :=
  neSame (.tup (SqT.of hp) (.cons (.str _) (.cons h.dp .nil))) (.tup (SqT.of hq) (.cons (.str _) (.cons h.dp .nil))) h.sh2 (by
    show (("height" : Str) == "height" && (PyData.eqv d d && true)) = true
    rw [h.eq]
    decide) k
theorem sh_b (x y : Int) : SeqAt.shaped (.tuple [.str "bounds", .int x, .int y]) = true := by
  have h : PyData.strOk "bounds" = true := by decide +kernel
  show (((PyData.strOk "bounds") && (true && (true && true))) && _) = true
  rw [h]
  rfl
theorem eq_b (x y : Int) : PyData.eqv (.tuple [.str "bounds", .int x, .int y]) (.tuple [.str "bounds", .int x, .int y]) = true := by
  show (("bounds" : Str) == "bounds" && (x == x && (y == y && true))) = true
  simp
def sp_doors : Sp := fun vs H Q _ => ∃ b n x y, vs = [.ref b, .int x, .int y] ∧ BoxAt H b n ∧ n < 90000 ∧ -1000000000000 ≤ x ∧ x ≤ 1000000000000 ∧ -1000000000000 ≤ y ∧ y ≤ 1000000000000 ∧ ∀ H', BoxAt H' b (n + 2) → Vc.But b H H' → Q (.bl true) H'
theorem ok_doors {f fE pE : Addr} {mc : Value} {fd : FuncData} (F : Fun K "_law_doors" "_law_doors" s__law_doors f fd) (B : Bt mg mt CB) (G__law_take : Vc.FnG P w K mg base CX0 1 "_law_take" ["_law_box_here", "_law_many"] sp_take)
    (G__law_refused : Vc.FnG P w K mg base CX0 5 "_law_refused" ["_law_least", "_law_most"] (sp_refused K)) (R_Bounds : ClX.CRead K CB mc) (C_Bounds_exact : ClX.CMet K CB mc "exact" pE fE) (F_Bounds_exact : Ow.Fr P w K mg base 5 fE (sp_exact K CB CH CI))
    (X_InvalidHeight : Xs.ExT P w K mg base "InvalidHeight" CH ["value"]) (hHH : PySem.W.exmOne K (.ref CH) (.ref CH) = some true) : FnOk P w K mg base CX0 7 f fd ["_law_box_here", "_law_a", "_law_b"] sp_doors := by
  refine F.ok sc__law_doors (fun vs H Q E h => ?_) (fun cdv A outer s H vs Q E hr h => ?_)
  · obtain ⟨b, n, x, y, rfl, _⟩ := h
    rfl
  · obtain ⟨b, n, x, y, rfl, hb, hn, hx0, hx1, hy0, hy1, k⟩ := h
    refine ⟨_, (pss_cons (ps_set (i := 3) sc__law_doors.nd rfl (Or.inl rfl) (pe_ix (Vc.ix_U K) (pe_lst (pa_cons pe_non (pa_cons pe_bl (pa_cons pe_str (pa_cons (pe_op Vc.op_addU (pe_op op_pow pe_int pe_int) pe_int) (pa_cons (pe_op op_sub (pe_un un_neg (pe_op op_pow pe_int pe_int)) pe_int) (pa_cons (pe_lst (pa_cons pe_int pa_nil)) (pa_cons pe_bl pa_nil)))))))) (Vc.pe_callG G__law_take hr (by decide) rfl pass0 (pa_cons (pv 0) (pa_cons pe_int pa_nil))) (fun _ _ => rfl)))
      (pss_cons (ps_if (pt_cmpR (Vc.op_neU K hr) (Vc.pe_callG G__law_refused hr (by decide) rfl pass0 (pa_cons (pv 3) (pa_cons (pe_ix (Vc.ix_U K) (pe_lst (pa_cons (pv 2) (pa_cons (pv 3) (pa_cons pe_str pa_nil)))) (Vc.pe_callG G__law_take hr (by decide) rfl pass0 (pa_cons (pv 0) (pa_cons pe_int pa_nil))) (fun _ _ => rfl)) pa_nil))) (pe_tup (pa_cons pe_str (pa_cons (pv 3) pa_nil))) (nomark _)) (pss_one (ps_ret pe_bl)) pss_nil)
      (pss_cons (ps_if (pt_cmpR (Vc.op_neU K hr) (Vc.pe_callG G__law_refused hr (by decide) rfl pass0 (pa_cons (pv 1) (pa_cons (pv 3) pa_nil))) (pe_tup (pa_cons pe_str (pa_cons (pv 3) pa_nil))) (nomark _)) (pss_one (ps_ret pe_bl)) pss_nil)
      (pss_cons (Ow.ps_tryT K rfl rfl takes0 (fun W pn xe tk po => (pss_cons (ps_expr (Ow.pe_cmethW (pe_glob (v := .ref _) rfl B.c_Bounds rfl) R_Bounds C_Bounds_exact F_Bounds_exact hr (by decide) tk (pa_cons (pv 3) pa_nil)))
      (pss_one (ps_ret pe_bl))))
      (Xs.ClsOk.as (i := 4) sc__law_doors.nd rfl rfl ⟨rfl, by decide, .inl X_InvalidHeight.gC⟩ (fun a oe cls d pn hz hd => (pss_one (ps_if (pt_not (pt_cmpR (Ow.op_eqN K hr.units) (pe_xf X_InvalidHeight.xf (X_InvalidHeight.no _ (by simp)) hz hd (pv 4)) (pv 3) (nomark _))) (pss_one (ps_ret pe_bl)) pss_nil)))
      Xs.ClsOk.nil))
      (pss_one (ps_ret (pe_or (pe_cmpR Vc.op_leU (pv 1) (pv 2) (nomark _)) (pe_one (pe_cmpR (Vc.op_eqU K hr) (Vc.pe_callG G__law_refused hr (by decide) rfl pass0 (pa_cons (pv 1) (pa_cons (pv 2) pa_nil))) (pe_tup (pa_cons pe_str (pa_cons (pv 1) (pa_cons (pv 2) pa_nil)))) (nomark _)))))))))), ?_⟩
    refine Vc.v_start (σ' := [some (.ref b), some (.int x), some (.int y), none, none]) rfl ?_
    walk_at "w"
    refine Vc.v_powc (z := 1000000000000) (by decide) (by decide) (by decide) (by decide) ?_
    walk_at "w"
    refine Vc.v_powc (z := 1000000000000) (by decide) (by decide) (by decide) (by decide) ?_
    walk_at "w"
    refine ⟨by walk_at "sz", fun q hq => ?_⟩
    walk_at "w"
    refine ⟨by walk_at "sz", fun p hp => ?_⟩
    walk_at "w"
    have s1 : Same H (upd (upd H q (.lst [.int 1])) p (.lst [V.non, .bl true, .str "3", .int (1000000000000 + 1), .int (-1000000000000 - 1), .ref q, .bl false])) := (same_new hq).trans (same_new hp)
    refine ⟨b, 7, n, rfl, hb.mono s1, by omega, by decide, by decide, fun d1 H1 d1a d1b hB1 k1 => ?_⟩
    have hq1 : H1 q = some (.lst [.int 1]) := k1.get (hb.ne hq) (Vc.h_new hp upd_same)
    have hp1 : H1 p = _ := k1.get ((hb.mono (same_new hq)).ne hp) upd_same
    obtain ⟨v, t, d, hat, W1⟩ := wrong_at K (q := q) d1a d1b
    refine Vc.v_ixL (SqL.of hp1) hat ?_
    walk_at "w"
    refine ⟨by walk_at "sz", fun p2 hp2 => ?_⟩
    walk_at "w"
    refine ⟨b, 3, _, rfl, hB1.mono (same_new hp2), by omega, by decide, by decide, fun d2 H2 d2a d2b hB2 k2 => ?_⟩
    have kb : Vc.But b H H2 := (((Vc.But.of s1).trans k1).trans (Vc.But.of (same_new hp2))).trans k2
    have hq2 : H2 q = some (.lst [.int 1]) := k2.get (hb.ne hq) (Vc.h_new hp2 hq1)
    have hp3 : H2 p2 = _ := k2.get (hB1.ne hp2) upd_same
    obtain ⟨u, hu, tu, ku⟩ : ∃ u, atI [V.int y, v, .str "x"] d2 = some u ∧ ∃ tu, Kd K H2 u tu := by
      rcases (by omega : d2 = 0 ∨ d2 = 1 ∨ d2 = 2) with h | h | h <;> subst h
      · exact ⟨_, rfl, _, .int y⟩
      · exact ⟨_, rfl, _, (W1 H2 hq2).kd⟩
      · exact ⟨_, rfl, _, .str _ (by decide)⟩
    refine Vc.v_ixL (SqL.of hp3) hu ?_
    walk_at "w"
    have no := (W1 H2 hq2).no
    refine ⟨v, u, t, tu, rfl, (W1 H2 hq2).kd, ku, fun _ p4 H4 s4 e4 => ?_, fun h => absurd (h.symm.trans no) (by decide), fun l h _ _ e => absurd (e.symm.trans no) (by decide), fun l h _ _ e => absurd (e.symm.trans no) (by decide)⟩
    walk_at "w"
    refine ⟨by walk_at "sz", fun p5 hp5 => ?_⟩
    have s5 : Same H2 (upd H4 p5 (.tup [.str "height", v])) := s4.trans (same_new hp5)
    refine (W1 _ (s5 _ _ hq2)).ne (Vc.h_new hp5 e4) upd_same ?_
    walk_at "w"
    have hx : isHt (.int x) = true := decide_eq_true ⟨hx0, hx1⟩
    refine ⟨.int x, v, _, t, rfl, .int x, (W1 _ (s5 _ _ hq2)).kd, fun h => absurd (h.symm.trans hx) (by decide), fun _ _ p6 H6 s6 e6 => ?_, fun l h _ _ _ e => absurd (e.symm.trans no) (by decide), fun l h _ _ _ e => absurd (e.symm.trans no) (by decide)⟩
    walk_at "w"
    refine ⟨by walk_at "sz", fun p7 hp7 => ?_⟩
    have s7 : Same H2 (upd H6 p7 (.tup [.str "height", v])) := (s5.trans s6).trans (same_new hp7)
    refine (W1 _ (s7 _ _ hq2)).ne (Vc.h_new hp7 e6) upd_same ?_
    walk_at "w"
    refine ⟨v, t, rfl, (W1 _ (s7 _ _ hq2)).kd, fun _ d8 H8 s8 e8 => ?_, fun h => absurd (h.symm.trans no) (by decide), fun l h _ _ e => absurd (e.symm.trans no) (by decide), fun l h e _ g1 g2 g3 => ?_⟩
    · refine Ow.w_hit hHH fun z hz => Ow.w_wishAs rfl ?_
      walk_at "w"
      refine ⟨rfl, d8, _, _, rfl, e8, rfl, ?_⟩
      walk_at "w"
      have s9 : Same H2 H8 := s7.trans s8
      have W9 := W1 _ (s9 _ _ hq2)
      refine eqSame W9.dp W9.dp W9.sh W9.eq ?_
      walk_at "w"
      have kb9 : Vc.But b H H8 := kb.trans (Vc.But.of s9)
      refine Vc.v_iteD (fun h1 => ?_) (fun h1 => ?_)
      · walk_at "w"
        exact k _ (hB2.mono s9) kb9
      · walk_at "w"
        refine ⟨.int x, .int y, _, _, rfl, .int x, .int y, fun h => absurd (h.symm.trans hx) (by decide), fun _ h => absurd (of_decide_eq_false h) (by omega), fun l h e1 e2 _ _ _ p10 H10 s10 e10 => ?_, fun l h e1 e2 _ _ h2 => ?_⟩
        · walk_at "w"
          refine ⟨by walk_at "sz", fun p11 hp11 => ?_⟩
          have dpt : ∀ {p : Addr} {H : Hp}, H p = some (.tup [.str "bounds", .int x, .int y]) → Dp K H (.ref p) (.tuple [.str "bounds", .int x, .int y]) := fun e => .tup (SqT.of e) (.cons (.str _) (.cons (.int x) (.cons (.int y) .nil)))
          refine eqSame (dpt (Vc.h_new hp11 e10)) (dpt upd_same) (sh_b x y) (eq_b x y) ?_
          exact k _ (hB2.mono ((s9.trans s10).trans (same_new hp11))) (kb9.trans (Vc.But.of (s10.trans (same_new hp11))))
        · cases e1
          cases e2
          exact absurd h2 h1
    · rw [e] at no
      exact absurd (of_decide_eq_false no) (by omega)
structure BdM (P : Program) (w : World) (K : PySem.W.Frag) (mg : Str → Option Value) (base : Heap) (CB CH CI CC : Addr) : Prop where
  mak : ∃ f, Mk K CB f ∧ Ow.Fr P w K mg base 3 f (sp_binit K CB CH CI) ∧ Ow.FrK P w K mg base 3 f 1 ["high", "low"] (fun us zs => us ++ zs.reverse) (sp_binit K CB CH CI)
  ex : ∃ mc p f, ClX.CRead K CB mc ∧ ClX.CMet K CB mc "exact" p f ∧ Ow.Fr P w K mg base 5 f (sp_exact K CB CH CI) ∧ Ow.FrK P w K mg base 5 f 1 ["height"] (fun us zs => us ++ zs) (sp_exact K CB CH CI)
  wd : ∃ p f, PropOf K CB "width" p f ∧ Ow.Fr P w K mg base 1 f (sp_width CB)
  ho : ∃ f, Meth K CB "holds" f ∧ Ow.Fr P w K mg base 1 f (sp_holds CB)
  cn : ∃ f, Ow.Spec K CB "__contains__" f ∧ Ow.Fr P w K mg base 2 f (sp_bin K CB)
  eq : ∃ f, Ow.Spec K CB "__eq__" f ∧ Ow.Fr P w K mg base 1 f (sp_beq K CB)
  an : ∃ f, Ow.Spec K CB "__and__" f ∧ Ow.Fr P w K mg base 5 f (sp_band CB CC)
  ng : ∃ f, Ow.Spec K CB "__neg__" f ∧ Ow.Fr P w K mg base 5 f (sp_bneg CB)
  sf : PySem.W.selfFirst K CB = true
/-- what isinstance and == find of its class -/
structure BdI (K : PySem.W.Frag) (C : Addr) : Prop where
  ty : ∀ {H : Hp} {a dx : Addr} {fs : List (Str × V)}, H a = some (.ins C dx fs) → TyX K H (.ref a) (.ref C)
  yes : PySem.W.kitOne K (.ref C) (.ref C) = some true
  nI : PySem.W.kitOne K (.type "int") (.ref C) = some false
  nT : PySem.W.kitOne K (.type "tuple") (.ref C) = some false
  nL : PySem.W.kitOne K (.type "list") (.ref C) = some false
  f0 : PySem.W.notFirst K C (.ref C) = true
  fI : PySem.W.notFirst K C (.type "int") = true
  fT : PySem.W.notFirst K C (.type "tuple") = true
  fL : PySem.W.notFirst K C (.type "list") = true
theorem sh_n (a b c d : Int) : SeqAt.shaped (.tuple [.str "none", .int a, .int b, .int c, .int d]) = true := by
  have h : PyData.strOk "none" = true := by decide +kernel
  show (((PyData.strOk "none") && (true && (true && (true && (true && true))))) && _) = true
  rw [h]
  rfl
theorem eq_n (a b c d : Int) : PyData.eqv (.tuple [.str "none", .int a, .int b, .int c, .int d]) (.tuple [.str "none", .int a, .int b, .int c, .int d]) = true := by
  show (("none" : Str) == "none" && (a == a && (b == b && (c == c && (d == d && true))))) = true
  simp
theorem e_ex1 {c : Int} {H : Hp} {Q : VK} {E : XK} (h0 : -1000000000000 ≤ c) (h1 : c ≤ 1000000000000) (k : ∀ x H', Same H H' → Bd CB H' x c c → Q (.ref x) H') : sp_exact K CB CH CI [.ref CB, .int c] H Q E :=
  ⟨.int c, _, rfl, .int c, fun e => absurd (of_decide_eq_false e) (by omega), fun _ e => absurd (of_decide_eq_false e) (by omega), fun l' h' e1 e2 _ _ e3 => by cases e1; cases e2; omega, fun l' h' e1 e2 _ _ _ => by cases e1; exact k⟩
def sp_right : Sp := fun vs H Q _ => ∃ a b c d, vs = [.int a, .int b, .int c, .int d] ∧ -1000000000000 ≤ a ∧ a ≤ b ∧ b ≤ 1000000000000 ∧ -1000000000000 ≤ c ∧ c ≤ d ∧ d ≤ 1000000000000 ∧ ∀ H', Same H H' → Q (.bl true) H'
theorem ok_right {f : Addr} {fd : FuncData} (F : Fun K "_law_right" "_law_right" s__law_right f fd) (B : Bt mg mt CB) (T : BdK K CB) (M : BdM P w K mg base CB CH CI CC) (J : BdI K CB)
    (G__law_common : Vc.FnG P w K mg base CX0 6 "_law_common" ["_law_one", "_law_other"] (sp_common CB)) : FnOk P w K mg base CX0 8 f fd ["_law_a", "_law_b", "_law_c", "_law_d"] sp_right := by
  refine F.ok sc__law_right (fun vs H Q E h => ?_) (fun cdv A outer s H vs Q E hr h => ?_)
  · obtain ⟨a, b, c, d, rfl, _⟩ := h
    rfl
  · obtain ⟨a, b, c, d, rfl, ha, hab, hb, hc, hcd, hd, k⟩ := h
    obtain ⟨fI, M_Bounds, F_Bounds, FK_Bounds_high_low⟩ := M.mak
    obtain ⟨mc, pE, fE, R_Bounds, C_Bounds_exact, F_Bounds_exact, FK_Bounds_exact_height⟩ := M.ex
    obtain ⟨pW, fW, P_Bounds_width, F_Bounds_width⟩ := M.wd
    obtain ⟨fH, N_Bounds_holds, F_Bounds_holds⟩ := M.ho
    obtain ⟨fC, S_Bounds___contains__, F_Bounds___contains__⟩ := M.cn
    obtain ⟨fE2, S_Bounds___eq__, F_Bounds___eq__⟩ := M.eq
    obtain ⟨fN, S_Bounds___neg__, F_Bounds___neg__⟩ := M.ng
    have T_Bounds := T.cls
    refine ⟨_, (pss_cons (ps_par (i := 4) (j := 5) (by rfl) sc__law_right.nd rfl rfl (by decide) rfl rfl (pa_cons (Ow.pe_makeW M_Bounds F_Bounds B.c_Bounds hr (by decide) rfl takes0 (pa_cons (pv 0) (pa_cons (pv 1) pa_nil))) (pa_cons (Ow.pe_makeKW M_Bounds FK_Bounds_high_low B.c_Bounds hr (by decide) rfl takes0 (pk_cons (pv 3) (pk_cons (pv 2) pk_nil))) pa_nil)) (by rfl))
      (pss_cons (ps_if (pt_cmpR (Vc.op_neU K hr) (pe_lst (pa_cons (Ow.pe_fldK K (pv 4) rfl) (pa_cons (Ow.pe_fldK K (pv 4) rfl) (pa_cons (Ow.pe_propR (pv 4) T_Bounds P_Bounds_width F_Bounds_width hr (by decide) rfl) pa_nil)))) (pe_lst (pa_cons (pv 0) (pa_cons (pv 1) (pa_cons (pe_op op_sub (pv 1) (pv 0)) pa_nil)))) (nomark _)) (pss_one (ps_ret pe_bl)) pss_nil)
      (pss_cons (ps_if (pt_cmpR (Vc.op_neU K hr) (pe_lst (pa_cons (Ow.pe_fldK K (pv 5) rfl) (pa_cons (Ow.pe_fldK K (pv 5) rfl) (pa_cons (Ow.pe_propR (pv 5) T_Bounds P_Bounds_width F_Bounds_width hr (by decide) rfl) pa_nil)))) (pe_lst (pa_cons (pv 2) (pa_cons (pv 3) (pa_cons (pe_op op_sub (pv 3) (pv 2)) pa_nil)))) (nomark _)) (pss_one (ps_ret pe_bl)) pss_nil)
      (pss_cons (ps_set (i := 6) sc__law_right.nd rfl (Or.inl rfl) (pe_tup (pa_cons (pe_callB (Vc.call_maxU K rfl) (by rfl) B.b_max (by decide +kernel) (pa_cons (pv 0) (pa_cons (pv 2) pa_nil))) (pa_cons (pe_callB (Vc.call_minU K rfl) (by rfl) B.b_min (by decide +kernel) (pa_cons (pv 1) (pa_cons (pv 3) pa_nil))) pa_nil))))
      (pss_cons (ps_if (pt_cmpR Vc.op_gtU (pe_ix (Vc.ix_U K) (pv 6) pe_int (fun _ _ => rfl)) (pe_ix (Vc.ix_U K) (pv 6) pe_int (fun _ _ => rfl)) (nomark _)) (pss_one (ps_set (i := 6) sc__law_right.nd rfl (Or.inl rfl) (pe_tup (pa_cons pe_str (pa_cons (pv 0) (pa_cons (pv 1) (pa_cons (pv 2) (pa_cons (pv 3) pa_nil)))))))) pss_nil)
      (pss_cons (ps_if (pt_cmpR (Vc.op_neU K hr) (Vc.pe_callG G__law_common hr (by decide) rfl pass0 (pa_cons (pv 4) (pa_cons (pv 5) pa_nil))) (pv 6) (nomark _)) (pss_one (ps_ret pe_bl)) pss_nil)
      (pss_cons (ps_if (pt_cmpR (Vc.op_neU K hr) (pe_callB Vc.call_reprU (by rfl) B.b_repr (by decide +kernel) (pa_cons (Ow.pe_methW (pv 4) T_Bounds N_Bounds_holds F_Bounds_holds hr (by decide) takes0 (pa_cons (pv 5) pa_nil)) pa_nil)) (pe_callB Vc.call_reprU (by rfl) B.b_repr (by decide +kernel) (pa_cons (pe_and (pe_cmpR Vc.op_leU (pv 0) (pv 2) (nomark _)) (pe_one (pe_cmpR Vc.op_leU (pv 3) (pv 1) (nomark _)))) pa_nil)) (nomark _)) (pss_one (ps_ret pe_bl)) pss_nil)
      (pss_cons (ps_if (pt_cmpR (Vc.op_neU K hr) (pe_callB Vc.call_reprU (by rfl) B.b_repr (by decide +kernel) (pa_cons (pe_cmpR (Ow.op_eqO K S_Bounds___eq__ F_Bounds___eq__ passL hr (by decide)) (pv 4) (pv 5) (nomark _)) pa_nil)) (pe_callB Vc.call_reprU (by rfl) B.b_repr (by decide +kernel) (pa_cons (pe_cmpR (Vc.op_eqU K hr) (pe_tup (pa_cons (pv 0) (pa_cons (pv 1) pa_nil))) (pe_tup (pa_cons (pv 2) (pa_cons (pv 3) pa_nil))) (nomark _)) pa_nil)) (nomark _)) (pss_one (ps_ret pe_bl)) pss_nil)
      (pss_cons (ps_if (PW.pt (pw_or (pt_not (pt_cmpR (Ow.op_eqO K S_Bounds___eq__ F_Bounds___eq__ passL hr (by decide)) (pv 4) (Ow.pe_makeW M_Bounds F_Bounds B.c_Bounds hr (by decide) rfl takes0 (pa_cons (pv 0) (pa_cons (pv 1) pa_nil))) (nomark _))) (pw_or (pt_cmpR (Ow.op_eqO K S_Bounds___eq__ F_Bounds___eq__ passL hr (by decide)) (pv 4) (pe_tup (pa_cons (pv 0) (pa_cons (pv 1) pa_nil))) (nomark _)) (pw_or (pt_cmpR (Ow.op_eqO K S_Bounds___eq__ F_Bounds___eq__ passL hr (by decide)) (pv 4) (pv 0) (nomark _)) (pw_or1 (pt_cmpR (Ow.op_eqO K S_Bounds___eq__ F_Bounds___eq__ passL hr (by decide)) (pv 4) (pe_lst (pa_cons (pv 0) (pa_cons (pv 1) pa_nil))) (nomark _))))))) (pss_one (ps_ret pe_bl)) pss_nil)
      (pss_cons (ps_for PassesOwn.never rfl (Vc.pi_listK K (pe_lst (pa_cons (pv 0) (pa_cons (pv 1) (pa_cons (pv 2) (pa_cons (pv 3) (pa_cons (pe_op op_sub (pv 0) pe_int) (pa_cons (pe_op Vc.op_addU (pv 1) pe_int) (pa_cons (pe_op op_fdivW (pe_op Vc.op_addU (pv 0) (pv 1)) pe_int) pa_nil))))))))) (pg_name (i := 7) sc__law_right.nd rfl (Or.inl rfl))
      (pss_one (ps_if (pt_cmpR (Vc.op_neU K hr) (pe_callB Vc.call_reprU (by rfl) B.b_repr (by decide +kernel) (pa_cons (pe_cmpR (Ow.op_inO S_Bounds___contains__ F_Bounds___contains__ passL hr (by decide)) (pv 7) (pv 4) (by rfl)) pa_nil)) (pe_callB Vc.call_reprU (by rfl) B.b_repr (by decide +kernel) (pa_cons (pe_and (pe_cmpR Vc.op_leU (pv 0) (pv 7) (nomark _)) (pe_one (pe_cmpR Vc.op_leU (pv 7) (pv 1) (nomark _)))) pa_nil)) (nomark _)) (pss_one (ps_ret pe_bl)) pss_nil)))
      (pss_cons (ps_if (PW.pt (pw_or (pt_cmpR (Ow.op_inO S_Bounds___contains__ F_Bounds___contains__ passL hr (by decide)) pe_bl (Ow.pe_makeW M_Bounds F_Bounds B.c_Bounds hr (by decide) rfl takes0 (pa_cons pe_int (pa_cons pe_int pa_nil))) (by rfl)) (pw_or (pt_cmpR (Ow.op_inO S_Bounds___contains__ F_Bounds___contains__ passL hr (by decide)) pe_str (pv 4) (by rfl)) (pw_or (pt_cmpR (Ow.op_inO S_Bounds___contains__ F_Bounds___contains__ passL hr (by decide)) pe_non (pv 4) (by rfl)) (pw_or1 (pt_cmpR (Ow.op_inO S_Bounds___contains__ F_Bounds___contains__ passL hr (by decide)) (pe_lst (pa_cons (pv 0) pa_nil)) (pv 4) (by rfl))))))) (pss_one (ps_ret pe_bl)) pss_nil)
      (pss_cons (ps_set (i := 8) sc__law_right.nd rfl (Or.inl rfl) (Ow.pe_negW S_Bounds___neg__ F_Bounds___neg__ hr (by decide) takes0 (pv 4)))
      (pss_cons (ps_if (pt_cmpR (Vc.op_neU K hr) (pe_lst (pa_cons (Ow.pe_fldK K (pv 8) rfl) (pa_cons (Ow.pe_fldK K (pv 8) rfl) pa_nil))) (pe_lst (pa_cons (pe_un un_neg (pv 1)) (pa_cons (pe_un un_neg (pv 0)) pa_nil))) (nomark _)) (pss_one (ps_ret pe_bl)) pss_nil)
      (pss_cons (ps_if (pt_cmpR (Vc.op_neU K hr) (pe_lst (pa_cons (Ow.pe_fldK K (pv 4) rfl) (pa_cons (Ow.pe_fldK K (pv 4) rfl) (pa_cons (Ow.pe_fldK K (pv 5) rfl) (pa_cons (Ow.pe_fldK K (pv 5) rfl) pa_nil))))) (pe_lst (pa_cons (pv 0) (pa_cons (pv 1) (pa_cons (pv 2) (pa_cons (pv 3) pa_nil))))) (nomark _)) (pss_one (ps_ret pe_bl)) pss_nil)
      (pss_one (ps_ret (pe_and (pe_cmpR (Ow.op_eqO K S_Bounds___eq__ F_Bounds___eq__ passL hr (by decide)) (Ow.pe_cmethW (pe_glob (v := .ref _) rfl B.c_Bounds rfl) R_Bounds C_Bounds_exact F_Bounds_exact hr (by decide) takes0 (pa_cons (pv 2) pa_nil)) (Ow.pe_makeW M_Bounds F_Bounds B.c_Bounds hr (by decide) rfl takes0 (pa_cons (pv 2) (pa_cons (pv 2) pa_nil))) (nomark _)) (pe_one (pe_cmpR (Vc.op_eqU K hr) (Ow.pe_propR (Ow.pe_cmethKW (pe_glob (v := .ref _) rfl B.c_Bounds rfl) R_Bounds C_Bounds_exact FK_Bounds_exact_height hr (by decide) takes0 (pk_cons (pv 2) pk_nil)) T_Bounds P_Bounds_width F_Bounds_width hr (by decide) rfl) pe_int (nomark _)))))))))))))))))))), ?_⟩
    refine Vc.v_start (σ' := [some (.int a), some (.int b), some (.int c), some (.int d), none, none, none, none, none]) rfl ?_
    walk_at "w"
    refine e_mkB1 ha hab hb fun x H1 s1 hx => ?_
    walk_at "w"
    refine ⟨rfl, Ow.makeG_of (vs := [.int c, .int d]) (fun _ => rfl) (e_mkB1 hc hcd hd fun y H2 s2 hy => ?_)⟩
    walk_at "w"
    have hx2 : Bd CB H2 x a b := hx.mono s2
    have S2 : Same H H2 := s1.trans s2
    obtain ⟨dx, ex⟩ := hx2.ex
    obtain ⟨dy, ey⟩ := hy.ex
    refine ⟨_, _, _, _, _, rfl, ex, T.cls, T.nl, rfl, ?_⟩
    walk_at "w"
    refine ⟨_, _, _, _, _, rfl, ex, T.cls, T.nh, rfl, ?_⟩
    walk_at "w"
    refine ⟨x, dx, _, rfl, ex, x, a, b, rfl, hx2, ?_⟩
    walk_at "w"
    refine ⟨by walk_at "sz", fun p1 hp1 => ?_⟩
    walk_at "w"
    refine ⟨by walk_at "sz", fun p2 hp2 => ?_⟩
    refine neInts [a, b, b - a] (SqL.of (Vc.h_new hp2 upd_same)) (SqL.of upd_same) rfl rfl rfl ?_
    generalize hH3 : upd (upd H2 p1 _) p2 _ = H3
    have s3 : Same H2 H3 := hH3 ▸ (same_new hp1).trans (same_new hp2)
    clear hH3 hp1 hp2
    walk_at "w"
    refine ⟨_, _, _, _, _, rfl, s3 _ _ ey, T.cls, T.nl, rfl, ?_⟩
    walk_at "w"
    refine ⟨_, _, _, _, _, rfl, s3 _ _ ey, T.cls, T.nh, rfl, ?_⟩
    walk_at "w"
    refine ⟨y, dy, _, rfl, s3 _ _ ey, y, c, d, rfl, hy.mono s3, ?_⟩
    walk_at "w"
    refine ⟨by walk_at "sz", fun p1 hp1 => ?_⟩
    walk_at "w"
    refine ⟨by walk_at "sz", fun p2 hp2 => ?_⟩
    refine neInts [c, d, d - c] (SqL.of (Vc.h_new hp2 upd_same)) (SqL.of upd_same) rfl rfl rfl ?_
    generalize hH4 : upd (upd H3 p1 _) p2 _ = H4
    have s4 : Same H2 H4 := hH4 ▸ s3.trans ((same_new hp1).trans (same_new hp2))
    clear hH4 hp1 hp2
    walk_at "n"
    have e1 : (if c > a then c else a) = max a c := by omega
    have e2 : (if d < b then d else b) = min b d := by omega
    rw [e1, e2]
    refine ⟨by walk_at "sz", fun p1 hp1 => ?_⟩
    walk_at "n"
    refine Vc.v_ixT (SqT.of upd_same) rfl ?_
    walk_at "n"
    refine Vc.v_ixT (SqT.of upd_same) rfl ?_
    walk_at "n"
    have s5 : Same H2 (upd H4 p1 (.tup [.int (max a c), .int (min b d)])) := s4.trans (same_new hp1)
    refine' Vc.v_iteD (fun h1 => ?brA) (fun h1 => ?brB)
    case' brA =>
      walk_at "n"
      refine ⟨by walk_at "sz", fun p2 hp2 => ?_⟩
      walk_at "n"
      have s6 := s5.trans (same_new (o := .tup [.str "none", .int a, .int b, .int c, .int d]) hp2)
      refine ⟨x, y, a, b, c, d, rfl, hx2.mono s6, hy.mono s6, fun _ p3 H6 s7' e6 => ?_, fun h => absurd h1 (by omega)⟩
      walk_at "n"
      have dpt : ∀ {p : Addr} {H : Hp}, H p = some (.tup [.str "none", .int a, .int b, .int c, .int d]) → Dp K H (.ref p) (.tuple [.str "none", .int a, .int b, .int c, .int d]) := fun e => .tup (SqT.of e) (.cons (.str _) (.cons (.int _) (.cons (.int _) (.cons (.int _) (.cons (.int _) .nil)))))
      refine neSame (dpt e6) (dpt (s7' _ _ upd_same)) (sh_n a b c d) (eq_n a b c d) ?_
      have s7 : Same H2 H6 := s6.trans s7'
      clear dpt s7' s6 hp2 e6
      generalize V.ref p2 = vd
    case' brB =>
      walk_at "n"
      refine ⟨x, y, a, b, c, d, rfl, hx2.mono s5, hy.mono s5, fun h => absurd h (by omega), fun _ p3 H6 s7' e6 => ?_⟩
      walk_at "n"
      have dpt : ∀ {p : Addr} {H : Hp}, H p = some (.tup [.int (max a c), .int (min b d)]) → Dp K H (.ref p) (.tuple [.int (max a c), .int (min b d)]) := fun e => .tup (SqT.of e) (.cons (.int _) (.cons (.int _) .nil))
      refine neSame (dpt e6) (dpt (s7' _ _ upd_same)) rfl (by show ((max a c == max a c) && ((min b d == min b d) && true)) = true; simp) ?_
      have s7 : Same H2 H6 := s5.trans s7'
      clear dpt s7' e6
      generalize V.ref p1 = vd
    all_goals (
      have ex7 := s7 _ _ ex
      have ey7 := s7 _ _ ey
      walk_at "n"
      refine ⟨x, dx, _, rfl, ex7, rfl, ?_⟩
      walk_at "n"
      refine ⟨x, y, a, b, c, d, rfl, hx2.mono s7, hy.mono s7, ?_⟩
      walk_at "n"
      refine v_andP (p := a ≤ c) (q := d ≤ b) (fun Q h => ?_) (fun Q h => ?_) ?_
      · walk_at "n"
        exact h
      · walk_at "n"
        exact h
      walk_at "n"
      refine neStr ?_
      walk_at "n"
      refine ⟨x, dx, _, .ref CB, rfl, ex7, J.ty ey7, J.f0, x, a, b, .ref y, rfl, hx2.mono s7, .inr ⟨y, c, d, rfl, hy.mono s7, J.ty ey7, J.yes, ⟨_, rfl⟩, ?_⟩⟩
      walk_at "n"
      refine ⟨by walk_at "sz", fun q1 hq1 => ?_⟩
      walk_at "n"
      refine ⟨by walk_at "sz", fun q2 hq2 => ?_⟩
      refine eqT2 (Vc.h_new hq2 upd_same) upd_same ?_
      walk_at "n"
      refine neStr ?_
      generalize hH8 : upd (upd H6 q1 _) q2 _ = H8
      have s8 : Same H2 H8 := hH8 ▸ s7.trans ((same_new hq1).trans (same_new hq2))
      clear hH8 hq1 hq2
      walk_at "w"
      refine e_mkB1 ha hab hb fun z H9 s9' hz => ?_
      have s9 : Same H2 H9 := s8.trans s9'
      obtain ⟨dz, ez⟩ := hz.ex
      refine ⟨x, dx, _, .ref CB, rfl, s9 _ _ ex, J.ty ez, J.f0, x, a, b, .ref z, rfl, hx2.mono s9, .inr ⟨z, a, b, rfl, hz, J.ty ez, J.yes, ⟨_, rfl⟩, ?_⟩⟩
      rw [decide_eq_true ⟨rfl, rfl⟩]
      walk_at "w"
      refine ⟨by walk_at "sz", fun q1 hq1 => ?_⟩
      have sa := s9.trans (same_new (o := .tup [.int a, .int b]) hq1)
      refine ⟨x, dx, _, .type "tuple", rfl, sa _ _ ex, .base (.tup upd_same), J.fT, x, a, b, _, rfl, hx2.mono sa, .inl ⟨_, .base (.tup upd_same), J.nT, ⟨_, rfl⟩, ?_⟩⟩
      walk_at "w"
      refine ⟨x, dx, _, .type "int", rfl, sa _ _ ex, .base (.int a), J.fI, x, a, b, _, rfl, hx2.mono sa, .inl ⟨_, .base (.int a), J.nI, ⟨_, rfl⟩, ?_⟩⟩
      walk_at "w"
      refine ⟨by walk_at "sz", fun q2 hq2 => ?_⟩
      have sb := sa.trans (same_new (o := .lst [.int a, .int b]) hq2)
      refine ⟨x, dx, _, .type "list", rfl, sb _ _ ex, .base (.lst upd_same), J.fL, x, a, b, _, rfl, hx2.mono sb, .inl ⟨_, .base (.lst upd_same), J.nL, ⟨_, rfl⟩, ?_⟩⟩
      walk_at "w"
      refine Vc.v_div (by decide) (by decide) ?_
      walk_at "w"
      refine ⟨by walk_at "sz", fun q3 hq3 => ?_⟩
      refine Vc.e_forL (xs := ([a, b, c, d, a - 1, b + 1, (a + b) / 2] : List Int).map V.int) (SqL.of upd_same) (fun i σ H' => (∃ w7, σ = [some (.int a), some (.int b), some (.int c), some (.int d), some (.ref x), some (.ref y), some vd, w7, none]) ∧ Same H2 H' ∧ SqL K H' q3 (([a, b, c, d, a - 1, b + 1, (a + b) / 2] : List Int).map V.int))
        ⟨⟨_, rfl⟩, sb.trans (same_new hq3), SqL.of upd_same⟩ (fun i σ H' _ p => p.2.2) ?_ ?_
      · rintro i v σ H' hi ⟨⟨w7, rfl⟩, s', hl⟩
        obtain ⟨n, rfl⟩ : ∃ n : Int, v = .int n := by
          have h1 := List.mem_of_getElem? hi
          rw [List.mem_map] at h1
          obtain ⟨n, _, h2⟩ := h1
          exact ⟨n, h2.symm⟩
        walk_at "n"
        refine ⟨x, dx, _, rfl, s' _ _ ex, x, a, b, .int n, _, rfl, hx2.mono s', .int n, ⟨_, rfl⟩, ?_⟩
        rw [show inB a b (V.int n) = decide (a ≤ n ∧ n ≤ b) from rfl]
        walk_at "n"
        refine v_andP (p := a ≤ n) (q := n ≤ b) (fun Q h => ?_) (fun Q h => ?_) ?_
        · walk_at "n"
          exact h
        · walk_at "n"
          exact h
        walk_at "n"
        refine neStr ?_
        walk_at "n"
        exact ⟨⟨_, rfl⟩, s', hl⟩
      · rintro σ Ha ⟨⟨w7, rfl⟩, sc, _⟩
        walk_at "w"
        refine e_mkB1 (by decide) (by decide) (by decide) fun z H10 s10' hz => ?_
        have s10 : Same H2 H10 := sc.trans s10'
        obtain ⟨dz, ez⟩ := hz.ex
        refine ⟨z, dz, _, rfl, ez, z, 0, 1, .bl true, _, rfl, hz, .bl true, ⟨_, rfl⟩, ?_⟩
        walk_at "w"
        refine Vc.v_iteE (c := false) rfl ?_
        walk_at "w"
        refine ⟨x, dx, _, rfl, s10 _ _ ex, x, a, b, .str "3", _, rfl, hx2.mono s10, .str _ (by decide), ⟨_, rfl⟩, ?_⟩
        walk_at "w"
        refine Vc.v_iteE (c := false) rfl ?_
        walk_at "w"
        refine ⟨x, dx, _, rfl, s10 _ _ ex, x, a, b, .non, _, rfl, hx2.mono s10, .non, ⟨_, rfl⟩, ?_⟩
        walk_at "w"
        refine Vc.v_iteE (c := false) rfl ?_
        walk_at "w"
        refine ⟨by walk_at "sz", fun q4 hq4 => ?_⟩
        have s11 := s10.trans (same_new (o := .lst [.int a]) hq4)
        walk_at "w"
        refine ⟨x, dx, _, rfl, s11 _ _ ex, x, a, b, .ref q4, _, rfl, hx2.mono s11, .lst upd_same, ⟨_, rfl⟩, ?_⟩
        walk_at "w"
        refine Vc.v_iteE (c := false) rfl ?_
        walk_at "w"
        refine ⟨x, dx, _, rfl, s11 _ _ ex, x, a, b, rfl, hx2.mono s11, fun t H12 s12' ht => ?_⟩
        have s12 := s11.trans s12'
        obtain ⟨dt, et⟩ := ht.ex
        walk_at "w"
        refine ⟨_, _, _, _, _, rfl, et, T.cls, T.nl, rfl, ?_⟩
        walk_at "w"
        refine ⟨_, _, _, _, _, rfl, et, T.cls, T.nh, rfl, ?_⟩
        walk_at "w"
        refine ⟨by walk_at "sz", fun p1 hp1 => ?_⟩
        walk_at "w"
        refine ⟨by walk_at "sz", fun p2 hp2 => ?_⟩
        refine neInts [-b, -a] (SqL.of (Vc.h_new hp2 upd_same)) (SqL.of upd_same) rfl rfl rfl ?_
        generalize hH3 : upd (upd H12 p1 _) p2 _ = H13
        have s13 : Same H2 H13 := hH3 ▸ s12.trans ((same_new hp1).trans (same_new hp2))
        clear hH3 hp1 hp2
        walk_at "w"
        refine ⟨_, _, _, _, _, rfl, s13 _ _ ex, T.cls, T.nl, rfl, ?_⟩
        walk_at "w"
        refine ⟨_, _, _, _, _, rfl, s13 _ _ ex, T.cls, T.nh, rfl, ?_⟩
        walk_at "w"
        refine ⟨_, _, _, _, _, rfl, s13 _ _ ey, T.cls, T.nl, rfl, ?_⟩
        walk_at "w"
        refine ⟨_, _, _, _, _, rfl, s13 _ _ ey, T.cls, T.nh, rfl, ?_⟩
        walk_at "w"
        refine ⟨by walk_at "sz", fun p1 hp1 => ?_⟩
        walk_at "w"
        refine ⟨by walk_at "sz", fun p2 hp2 => ?_⟩
        refine neInts [a, b, c, d] (SqL.of (Vc.h_new hp2 upd_same)) (SqL.of upd_same) rfl rfl rfl ?_
        generalize hH4 : upd (upd H13 p1 _) p2 _ = H14
        have s14 : Same H2 H14 := hH4 ▸ s13.trans ((same_new hp1).trans (same_new hp2))
        clear hH4 hp1 hp2
        walk_at "w"
        refine e_ex1 hc (by omega) fun z1 H15 s15 hz1 => ?_
        walk_at "w"
        refine e_mkB1 hc (by omega) (by omega) fun z2 H16 s16 hz2 => ?_
        obtain ⟨d1, e1⟩ := (hz1.mono s16).ex
        obtain ⟨d2, e2⟩ := hz2.ex
        refine ⟨z1, d1, _, .ref CB, rfl, e1, J.ty e2, J.f0, z1, c, c, .ref z2, rfl, hz1.mono s16, .inr ⟨z2, c, c, rfl, hz2, J.ty e2, J.yes, ⟨_, rfl⟩, ?_⟩⟩
        rw [decide_eq_true ⟨rfl, rfl⟩]
        walk_at "w"
        refine ⟨rfl, e_ex1 hc (by omega) fun z3 H17 s17 hz3 => ?_⟩
        obtain ⟨d3, e3⟩ := hz3.ex
        walk_at "w"
        refine ⟨z3, d3, _, rfl, e3, z3, c, c, rfl, hz3, ?_⟩
        walk_at "w"
        refine Vc.v_eqU rfl ?_
        rw [decide_eq_true (by rw [Int.sub_self])]
        exact k _ (S2.trans (s14.trans ((s15.trans s16).trans s17))))
def spLaw (K : PySem.W.Frag) : Sp := fun vs H Q _ => ∃ (a : Addr) (ns : List Int), vs = [.ref a] ∧ SqL K H a (ns.map V.int) ∧ ns.length ≤ 63 ∧ ∀ H', Q (.bl true) H'
theorem two_sorted {x y : Int} {ns : List Int} (h : ns.Perm [x, y]) (hs : ns.Pairwise (· ≤ ·)) : ∃ u v, ns = [u, v] ∧ u ≤ v ∧ (u = x ∨ u = y) ∧ (v = x ∨ v = y) := by
  have hl := h.length_eq
  match ns, hl with
  | [u, v], _ =>
    have hu : u ∈ [x, y] := h.mem_iff.mp (by simp)
    have hv : v ∈ [x, y] := h.mem_iff.mp (by simp)
    simp only [List.mem_cons, List.not_mem_nil, or_false] at hu hv
    refine ⟨u, v, rfl, ?_, hu, hv⟩
    rw [List.pairwise_cons] at hs
    exact hs.1 v (by simp)
theorem ok_law {f : Addr} {fd : FuncData} (F : Fun K "law" "law" s_law f fd) (B : Bt mg mt CB)
    (G__law_cell : Vc.FnG P w K mg base CX0 1 "_law_cell" ["_law_script", "_law_k"] (sp_cell K)) (G__law_box : Vc.FnG P w K mg base CX0 1 "_law_box" ["_law_cell_here"] sp_box)
    (G__law_drawn : Vc.FnG P w K mg base CX0 2 "_law_drawn" ["_law_box_here"] sp_drawn) (G__law_doors : Vc.FnG P w K mg base CX0 7 "_law_doors" ["_law_box_here", "_law_a", "_law_b"] sp_doors)
    (G__law_right : Vc.FnG P w K mg base CX0 8 "_law_right" ["_law_a", "_law_b", "_law_c", "_law_d"] sp_right) : FnOk P w K mg base CX0 9 f fd ["_law_script"] (spLaw K) := by
  refine F.ok sc_law (fun vs H Q E h => ?_) (fun cdv A outer s H vs Q E hr h => ?_)
  · obtain ⟨a, ns, rfl, _⟩ := h
    rfl
  · obtain ⟨a, ns, rfl, hS, hlen, k⟩ := h
    refine ⟨_, (pss_cons (ps_for PassesOwn.never rfl (pi_range1 rfl B.b_range (pa_cons (pe_callB (Vc.call_maxU K rfl) (by rfl) B.b_max (by decide +kernel) (pa_cons pe_int (pa_cons (pe_callB (Vc.call_minU K rfl) (by rfl) B.b_min (by decide +kernel) (pa_cons pe_int (pa_cons (pe_callB (Vc.call_lenU K) (by rfl) B.b_len (by decide +kernel) (pa_cons (pv 0) pa_nil)) pa_nil))) pa_nil))) pa_nil)) (pg_name (i := 1) sc_law.nd rfl (Or.inl rfl))
      (pss_cons (ps_set (i := 2) sc_law.nd rfl (Or.inl rfl) (Vc.pe_callG G__law_box hr (by decide) rfl pass0 (pa_cons (Vc.pe_callG G__law_cell hr (by decide) rfl pass0 (pa_cons (pv 0) (pa_cons (pv 1) pa_nil))) pa_nil)))
      (pss_cons (ps_par (i := 3) (j := 4) (by rfl) sc_law.nd rfl rfl (by decide) rfl rfl (pa_cons (Vc.pe_callG G__law_drawn hr (by decide) rfl pass0 (pa_cons (pv 2) pa_nil)) (pa_cons (Vc.pe_callG G__law_drawn hr (by decide) rfl pass0 (pa_cons (pv 2) pa_nil)) pa_nil)) (by rfl))
      (pss_cons (ps_if (pt_not (pt_val (Vc.pe_callG G__law_doors hr (by decide) rfl pass0 (pa_cons (pv 2) (pa_cons (pv 3) (pa_cons (pv 4) pa_nil)))))) (pss_one (ps_ret pe_bl)) pss_nil)
      (pss_cons (ps_set (i := 5) sc_law.nd rfl (Or.inl rfl) (pe_op Vc.op_addU (pe_callB (Ow.call_sortedU K) (by rfl) B.b_sorted (by decide +kernel) (pa_cons (pe_lst (pa_cons (pv 3) (pa_cons (pv 4) pa_nil))) pa_nil)) (pe_callB (Ow.call_sortedU K) (by rfl) B.b_sorted (by decide +kernel) (pa_cons (pe_lst (pa_cons (Vc.pe_callG G__law_drawn hr (by decide) rfl pass0 (pa_cons (pv 2) pa_nil)) (pa_cons (Vc.pe_callG G__law_drawn hr (by decide) rfl pass0 (pa_cons (pv 2) pa_nil)) pa_nil))) pa_nil))))
      (pss_one (ps_if (pt_not (pt_val (Vc.pe_callG G__law_right hr (by decide) rfl pass0 (pa_cons (pe_ix (Vc.ix_U K) (pv 5) pe_int (fun _ _ => rfl)) (pa_cons (pe_ix (Vc.ix_U K) (pv 5) pe_int (fun _ _ => rfl)) (pa_cons (pe_ix (Vc.ix_U K) (pv 5) pe_int (fun _ _ => rfl)) (pa_cons (pe_ix (Vc.ix_U K) (pv 5) pe_int (fun _ _ => rfl)) pa_nil))))))) (pss_one (ps_ret pe_bl)) pss_nil)))))))
      (pss_one (ps_ret pe_bl))), ?_⟩
    refine Vc.v_start (σ' := [some (.ref a), none, none, none, none, none]) rfl ?_
    walk_at "w"
    refine Vc.v_lenL hS ?_
    walk_at "w"
    generalize hN : (if (if ((ns.map V.int).length : Int) < 30 then ((ns.map V.int).length : Int) else 30) > 2 then (if ((ns.map V.int).length : Int) < 30 then ((ns.map V.int).length : Int) else 30) else 2) = N
    have hN1 : 0 ≤ N ∧ N ≤ 1000 := by
      rw [List.length_map] at hN
      split at hN <;> split at hN <;> omega
    refine Vc.e_forR1 ⟨hN1.1, by omega⟩ (fun i σ H' => (∃ x1 x2 x3 x4 x5 : Option V, σ = [some (.ref a), x1, x2, x3, x4, x5]) ∧ SqL K H' a (ns.map V.int)) ⟨⟨_, _, _, _, _, rfl⟩, hS⟩ ?_ ?_
    · rintro i σ H0 hi ⟨⟨x1, x2, x3, x4, x5, rfl⟩, hs⟩
      walk_at "w"
      refine ⟨a, _, ns, rfl, hs, by omega, by omega, fun z => ?_⟩
      walk_at "w"
      refine ⟨z, rfl, fun b H1 hb0 hB0 s1 => ?_⟩
      walk_at "w"
      refine ⟨b, 0, rfl, hB0, by decide, fun d1 H2 d1a d1b hB1 k1 => ?_⟩
      walk_at "w"
      refine ⟨b, _, rfl, hB1, by decide, fun d2 H3 d2a d2b hB2 k2 => ?_⟩
      walk_at "w"
      refine ⟨b, _, d1, d2, rfl, hB2, by decide, d1a, d1b, d2a, d2b, fun H4 hB3 k3 => ?_⟩
      walk_at "w"
      refine ⟨by walk_at "sz", fun p1 hp1 => ?_⟩
      walk_at "w"
      refine .inl ⟨p1, [d1, d2], rfl, SqL.of upd_same, (by show 2 < 64; decide), fun ns1 p2 hpm hps hp2 => ?_⟩
      obtain ⟨u1, v1, rfl, huv, hu1, hv1⟩ := two_sorted hpm hps
      walk_at "w"
      have sA := (same_new (o := .lst [.int d1, .int d2]) hp1).trans (same_new (o := .lst (List.map V.int [u1, v1])) hp2)
      refine ⟨b, _, rfl, hB3.mono sA, by decide, fun d3 H5 d3a d3b hB4 k4 => ?_⟩
      walk_at "w"
      refine ⟨b, _, rfl, hB4, by decide, fun d4 H6 d4a d4b hB5 k5 => ?_⟩
      walk_at "w"
      have e2 : H6 p2 = some (.lst (List.map V.int [u1, v1])) := k5.get ((hB3.mono (same_new hp1)).ne hp2) (k4.get ((hB3.mono (same_new hp1)).ne hp2) upd_same)
      refine ⟨by walk_at "sz", fun p3 hp3 => ?_⟩
      walk_at "w"
      refine .inl ⟨p3, [d3, d4], rfl, SqL.of upd_same, (by show 2 < 64; decide), fun ns2 p4 hpm2 hps2 hp4 => ?_⟩
      obtain ⟨u2, v2, rfl, huv2, hu2, hv2⟩ := two_sorted hpm2 hps2
      refine Vc.v_addL (xs := List.map V.int [u1, v1]) (zs := List.map V.int [u2, v2]) (Vc.h_new hp4 (Vc.h_new hp3 e2)) upd_same (by rw [Vc.szE]; show 2 + 2 ≤ 16777216; decide) fun p5 hp5 => ?_
      walk_at "w"
      refine Vc.v_ixL (SqL.of upd_same) rfl ?_
      walk_at "w"
      refine Vc.v_ixL (SqL.of upd_same) rfl ?_
      walk_at "w"
      refine Vc.v_ixL (SqL.of upd_same) rfl ?_
      walk_at "w"
      refine Vc.v_ixL (SqL.of upd_same) rfl ?_
      walk_at "w"
      refine ⟨u1, v1, u2, v2, rfl, by omega, huv, by omega, by omega, huv2, by omega, fun H7 s7 => ?_⟩
      walk_at "w"
      refine ⟨⟨_, _, _, _, _, rfl⟩, ?_⟩
      have kb : Vc.But b H0 H7 := (((((((Vc.But.of s1).trans k1).trans k2).trans k3).trans (Vc.But.of sA)).trans k4).trans k5).trans (Vc.But.of ((((same_new hp3).trans (same_new hp4)).trans (same_new hp5)).trans s7))
      exact kb.seqN hb0 hs
    · rintro σ Ha ⟨⟨x1, x2, x3, x4, x5, rfl⟩, hs⟩
      walk_at "w"
      exact k _
end

abbrev s_InvalidHeight___init__ : Stmt := inClass (topS 3) 0
theorem ss_InvalidHeight___init__ : Xs.SupS ["self", "value"] (defArgs s_InvalidHeight___init__) (defScope s_InvalidHeight___init__) := ⟨rfl, rfl, rfl, by decide +kernel, by decide +kernel, by decide +kernel, Xe.free_by (by decide +kernel), Xe.nocell_by (by decide +kernel), rfl, rfl, ⟨_, rfl, rfl⟩⟩

abbrev s_InvalidBounds___init__ : Stmt := inClass (topS 4) 0
theorem ss_InvalidBounds___init__ : Xs.SupS ["self", "low", "high"] (defArgs s_InvalidBounds___init__) (defScope s_InvalidBounds___init__) := ⟨rfl, rfl, rfl, by decide +kernel, by decide +kernel, by decide +kernel, Xe.free_by (by decide +kernel), Xe.nocell_by (by decide +kernel), rfl, rfl, ⟨_, rfl, rfl⟩⟩

abbrev s_Contradiction___init__ : Stmt := inClass (topS 5) 0
theorem ss_Contradiction___init__ : Xs.SupS ["self", "one", "other"] (defArgs s_Contradiction___init__) (defScope s_Contradiction___init__) := ⟨rfl, rfl, rfl, by decide +kernel, by decide +kernel, by decide +kernel, Xe.free_by (by decide +kernel), Xe.nocell_by (by decide +kernel), rfl, rfl, ⟨_, rfl, rfl⟩⟩

theorem all_mk {l : PySem.W.OpenLaw} {w : World} {K : PySem.W.Frag} {h : Heap} {mg : Str → Option Value} {fa : Addr} (X : K.In h) (G : h.Ns mainGlobals mg) (hfa : mg "law" = some (.ref fa))
    {t_MOST_HEIGHT : Tok}
    {C_Bounds : Addr}
    {f_Bounds___init__ : Addr} {oc_Bounds___init__ kV_Bounds___init__ dc_Bounds___init__ pm_Bounds___init__ cd_Bounds___init__ ct_Bounds___init__ : Value} {od_Bounds___init__ an_Bounds___init__ : Option Addr} {sl_Bounds___init__ : Array (Option Value)}
    {f_Bounds_holds : Addr} {oc_Bounds_holds kV_Bounds_holds dc_Bounds_holds pm_Bounds_holds cd_Bounds_holds ct_Bounds_holds : Value} {od_Bounds_holds an_Bounds_holds : Option Addr} {sl_Bounds_holds : Array (Option Value)}
    {f_Bounds___contains__ : Addr} {oc_Bounds___contains__ kV_Bounds___contains__ dc_Bounds___contains__ pm_Bounds___contains__ cd_Bounds___contains__ ct_Bounds___contains__ : Value} {od_Bounds___contains__ an_Bounds___contains__ : Option Addr} {sl_Bounds___contains__ : Array (Option Value)}
    {f_Bounds___eq__ : Addr} {oc_Bounds___eq__ kV_Bounds___eq__ dc_Bounds___eq__ pm_Bounds___eq__ cd_Bounds___eq__ ct_Bounds___eq__ : Value} {od_Bounds___eq__ an_Bounds___eq__ : Option Addr} {sl_Bounds___eq__ : Array (Option Value)}
    {f_Bounds___and__ : Addr} {oc_Bounds___and__ kV_Bounds___and__ dc_Bounds___and__ pm_Bounds___and__ cd_Bounds___and__ ct_Bounds___and__ : Value} {od_Bounds___and__ an_Bounds___and__ : Option Addr} {sl_Bounds___and__ : Array (Option Value)}
    {f_Bounds___neg__ : Addr} {oc_Bounds___neg__ kV_Bounds___neg__ dc_Bounds___neg__ pm_Bounds___neg__ cd_Bounds___neg__ ct_Bounds___neg__ : Value} {od_Bounds___neg__ an_Bounds___neg__ : Option Addr} {sl_Bounds___neg__ : Array (Option Value)}
    {f_Bounds_width : Addr} {oc_Bounds_width kV_Bounds_width dc_Bounds_width pm_Bounds_width cd_Bounds_width ct_Bounds_width : Value} {od_Bounds_width an_Bounds_width : Option Addr} {sl_Bounds_width : Array (Option Value)}
    {p_Bounds_width : Addr} {r_Bounds_width : List Value}
    {f_Bounds_exact : Addr} {oc_Bounds_exact kV_Bounds_exact dc_Bounds_exact pm_Bounds_exact cd_Bounds_exact ct_Bounds_exact : Value} {od_Bounds_exact an_Bounds_exact : Option Addr} {sl_Bounds_exact : Array (Option Value)}
    {p_Bounds_exact : Addr} {r_Bounds_exact : List Value}
    {f_is_height : Addr} {oc_is_height kV_is_height dc_is_height pm_is_height cd_is_height ct_is_height : Value} {od_is_height an_is_height : Option Addr} {sl_is_height : Array (Option Value)}
    {f__law_cell : Addr} {oc__law_cell kV__law_cell dc__law_cell pm__law_cell cd__law_cell ct__law_cell : Value} {od__law_cell an__law_cell : Option Addr} {sl__law_cell : Array (Option Value)}
    {f__law_box : Addr} {oc__law_box kV__law_box dc__law_box pm__law_box cd__law_box ct__law_box : Value} {od__law_box an__law_box : Option Addr} {sl__law_box : Array (Option Value)}
    {f__law_take : Addr} {oc__law_take kV__law_take dc__law_take pm__law_take cd__law_take ct__law_take : Value} {od__law_take an__law_take : Option Addr} {sl__law_take : Array (Option Value)}
    {f__law_drawn : Addr} {oc__law_drawn kV__law_drawn dc__law_drawn pm__law_drawn cd__law_drawn ct__law_drawn : Value} {od__law_drawn an__law_drawn : Option Addr} {sl__law_drawn : Array (Option Value)}
    {f__law_refused : Addr} {oc__law_refused kV__law_refused dc__law_refused pm__law_refused cd__law_refused ct__law_refused : Value} {od__law_refused an__law_refused : Option Addr} {sl__law_refused : Array (Option Value)}
    {f__law_common : Addr} {oc__law_common kV__law_common dc__law_common pm__law_common cd__law_common ct__law_common : Value} {od__law_common an__law_common : Option Addr} {sl__law_common : Array (Option Value)}
    {f__law_doors : Addr} {oc__law_doors kV__law_doors dc__law_doors pm__law_doors cd__law_doors ct__law_doors : Value} {od__law_doors an__law_doors : Option Addr} {sl__law_doors : Array (Option Value)}
    {f__law_right : Addr} {oc__law_right kV__law_right dc__law_right pm__law_right cd__law_right ct__law_right : Value} {od__law_right an__law_right : Option Addr} {sl__law_right : Array (Option Value)}
    {f_law : Addr} {oc_law kV_law dc_law pm_law cd_law ct_law : Value} {od_law an_law : Option Addr} {sl_law : Array (Option Value)}
    {C_InvalidHeight : Addr} {nm_InvalidHeight q_InvalidHeight : Str} {N_InvalidHeight : Addr} {bs_InvalidHeight bm_InvalidHeight : List Value} {sn_InvalidHeight : List Str} {sub_InvalidHeight : List Value} {ab_InvalidHeight : Bool} {col_InvalidHeight : Option Bool} {dd_InvalidHeight : Option Addr} {m0_InvalidHeight m1_InvalidHeight m2_InvalidHeight m3_InvalidHeight m5_InvalidHeight : Option Value}
    {f_InvalidHeight___init__ : Addr} {oc_InvalidHeight___init__ kV_InvalidHeight___init__ dc_InvalidHeight___init__ pm_InvalidHeight___init__ ct_InvalidHeight___init__ : Value} {od_InvalidHeight___init__ an_InvalidHeight___init__ : Option Addr} {sl_InvalidHeight___init__ : Array (Option Value)} {cda_InvalidHeight___init__ cc_InvalidHeight___init__ : Addr} {ccl_InvalidHeight___init__ : Value} {cdd_InvalidHeight___init__ : Option Addr} {cvs_InvalidHeight___init__ : Array Value} {ccs_InvalidHeight___init__ : Array (Option Value)} {fl_InvalidHeight___init__ : Str} {tf_InvalidHeight___init__ : Tok} {cl_InvalidHeight___init__ : Value} {cld_InvalidHeight___init__ : Option Addr} {csl_InvalidHeight___init__ : Array (Option Value)} {cdC_InvalidHeight___init__ : ClassData}
    {C_InvalidBounds : Addr} {nm_InvalidBounds q_InvalidBounds : Str} {N_InvalidBounds : Addr} {bs_InvalidBounds bm_InvalidBounds : List Value} {sn_InvalidBounds : List Str} {sub_InvalidBounds : List Value} {ab_InvalidBounds : Bool} {col_InvalidBounds : Option Bool} {dd_InvalidBounds : Option Addr} {m0_InvalidBounds m1_InvalidBounds m2_InvalidBounds m3_InvalidBounds m5_InvalidBounds : Option Value}
    {f_InvalidBounds___init__ : Addr} {oc_InvalidBounds___init__ kV_InvalidBounds___init__ dc_InvalidBounds___init__ pm_InvalidBounds___init__ ct_InvalidBounds___init__ : Value} {od_InvalidBounds___init__ an_InvalidBounds___init__ : Option Addr} {sl_InvalidBounds___init__ : Array (Option Value)} {cda_InvalidBounds___init__ cc_InvalidBounds___init__ : Addr} {ccl_InvalidBounds___init__ : Value} {cdd_InvalidBounds___init__ : Option Addr} {cvs_InvalidBounds___init__ : Array Value} {ccs_InvalidBounds___init__ : Array (Option Value)} {fl_InvalidBounds___init__ : Str} {tf_InvalidBounds___init__ : Tok} {cl_InvalidBounds___init__ : Value} {cld_InvalidBounds___init__ : Option Addr} {csl_InvalidBounds___init__ : Array (Option Value)} {cdC_InvalidBounds___init__ : ClassData}
    {C_Contradiction : Addr} {nm_Contradiction q_Contradiction : Str} {N_Contradiction : Addr} {bs_Contradiction bm_Contradiction : List Value} {sn_Contradiction : List Str} {sub_Contradiction : List Value} {ab_Contradiction : Bool} {col_Contradiction : Option Bool} {dd_Contradiction : Option Addr} {m0_Contradiction m1_Contradiction m2_Contradiction m3_Contradiction m5_Contradiction : Option Value}
    {f_Contradiction___init__ : Addr} {oc_Contradiction___init__ kV_Contradiction___init__ dc_Contradiction___init__ pm_Contradiction___init__ ct_Contradiction___init__ : Value} {od_Contradiction___init__ an_Contradiction___init__ : Option Addr} {sl_Contradiction___init__ : Array (Option Value)} {cda_Contradiction___init__ cc_Contradiction___init__ : Addr} {ccl_Contradiction___init__ : Value} {cdd_Contradiction___init__ : Option Addr} {cvs_Contradiction___init__ : Array Value} {ccs_Contradiction___init__ : Array (Option Value)} {fl_Contradiction___init__ : Str} {tf_Contradiction___init__ : Tok} {cl_Contradiction___init__ : Value} {cld_Contradiction___init__ : Option Addr} {csl_Contradiction___init__ : Array (Option Value)} {cdC_Contradiction___init__ : ClassData}
    (z_isinstance : PySem.W.nsIn K mainGlobals "isinstance" = some none)
    (z_int : PySem.W.nsIn K mainGlobals "int" = some none)
    (z_bool : PySem.W.nsIn K mainGlobals "bool" = some none)
    (z_len : PySem.W.nsIn K mainGlobals "len" = some none)
    (z_max : PySem.W.nsIn K mainGlobals "max" = some none)
    (z_min : PySem.W.nsIn K mainGlobals "min" = some none)
    (z_repr : PySem.W.nsIn K mainGlobals "repr" = some none)
    (z_range : PySem.W.nsIn K mainGlobals "range" = some none)
    (z_sorted : PySem.W.nsIn K mainGlobals "sorted" = some none)
    (g_MOST_HEIGHT : PySem.W.nsIn K mainGlobals "MOST_HEIGHT" = some (some (.int 1000000000000 t_MOST_HEIGHT)))
    (n_Bounds : PySem.W.nsIn K mainGlobals "Bounds" = some (some (.ref C_Bounds)))
    (pg_Bounds : PySem.W.plainGet K C_Bounds Str.empty = true)
    (hd_Bounds : PySem.W.hasDictIn K C_Bounds = true)
    (po_Bounds : PySem.W.plainOver K C_Bounds = true)
    (sa_Bounds : PySem.W.findIn K (.ref C_Bounds) "__setattr__" = some (some (.builtin "object.__setattr__")))
    (ha_Bounds : PySem.W.findIn K (.ref C_Bounds) "__class__" = some (some (.builtin "object.__class__")))
    (hn_Bounds : PySem.W.specialIn K (.builtin "object.__class__") "__get__" = some (some (.builtin "getset_descriptor.__get__")))
    (ht_Bounds : PySem.W.takesIn K (.builtin "object.__class__") = some true)
    (hm_Bounds : PySem.W.mroIn K C_Bounds (.type "object") = some true)
    (ic_Bounds : PySem.W.isClsIn K C_Bounds = true)
    (tc_Bounds : PySem.W.typeIn K (.ref C_Bounds) = some (.type "type"))
    (na_Bounds_low : PySem.W.findIn K (.ref C_Bounds) "low" = some none)
    (na_Bounds_high : PySem.W.findIn K (.ref C_Bounds) "high" = some none)
    (mk_Bounds : PySem.W.makesIn K C_Bounds = true)
    (kp_Bounds : PySem.W.keepIn K (.ref C_Bounds) = true)
    (sf_Bounds : PySem.W.selfFirst K C_Bounds = true)
    (a_Bounds___init__ : PySem.W.findIn K (.ref C_Bounds) "__init__" = some (some (.ref f_Bounds___init__)))
    (i_Bounds___init__ : PySem.W.isFn K (.ref f_Bounds___init__) = true)
    (l_Bounds___init__ : K.lookup f_Bounds___init__ = some ⟨oc_Bounds___init__, od_Bounds___init__, .func (PySem.W.fnOf "__init__" "Bounds.__init__" (defArgs s_Bounds___init__) (defBody s_Bounds___init__) (defScope s_Bounds___init__) .none kV_Bounds___init__ dc_Bounds___init__ pm_Bounds___init__ an_Bounds___init__ cd_Bounds___init__ ct_Bounds___init__), sl_Bounds___init__⟩)
    (c_Bounds___init__ : PySem.W.codeIn K cd_Bounds___init__ "Bounds.__init__" = true)
    (k_Bounds___init__ : PySem.W.keepIn K (.ref f_Bounds___init__) = true)
    (a_Bounds_holds : PySem.W.findIn K (.ref C_Bounds) "holds" = some (some (.ref f_Bounds_holds)))
    (i_Bounds_holds : PySem.W.isFn K (.ref f_Bounds_holds) = true)
    (l_Bounds_holds : K.lookup f_Bounds_holds = some ⟨oc_Bounds_holds, od_Bounds_holds, .func (PySem.W.fnOf "holds" "Bounds.holds" (defArgs s_Bounds_holds) (defBody s_Bounds_holds) (defScope s_Bounds_holds) .none kV_Bounds_holds dc_Bounds_holds pm_Bounds_holds an_Bounds_holds cd_Bounds_holds ct_Bounds_holds), sl_Bounds_holds⟩)
    (c_Bounds_holds : PySem.W.codeIn K cd_Bounds_holds "Bounds.holds" = true)
    (k_Bounds_holds : PySem.W.keepIn K (.ref f_Bounds_holds) = true)
    (a_Bounds___contains__ : PySem.W.findIn K (.ref C_Bounds) "__contains__" = some (some (.ref f_Bounds___contains__)))
    (i_Bounds___contains__ : PySem.W.isFn K (.ref f_Bounds___contains__) = true)
    (l_Bounds___contains__ : K.lookup f_Bounds___contains__ = some ⟨oc_Bounds___contains__, od_Bounds___contains__, .func (PySem.W.fnOf "__contains__" "Bounds.__contains__" (defArgs s_Bounds___contains__) (defBody s_Bounds___contains__) (defScope s_Bounds___contains__) .none kV_Bounds___contains__ dc_Bounds___contains__ pm_Bounds___contains__ an_Bounds___contains__ cd_Bounds___contains__ ct_Bounds___contains__), sl_Bounds___contains__⟩)
    (c_Bounds___contains__ : PySem.W.codeIn K cd_Bounds___contains__ "Bounds.__contains__" = true)
    (k_Bounds___contains__ : PySem.W.keepIn K (.ref f_Bounds___contains__) = true)
    (a_Bounds___eq__ : PySem.W.findIn K (.ref C_Bounds) "__eq__" = some (some (.ref f_Bounds___eq__)))
    (i_Bounds___eq__ : PySem.W.isFn K (.ref f_Bounds___eq__) = true)
    (l_Bounds___eq__ : K.lookup f_Bounds___eq__ = some ⟨oc_Bounds___eq__, od_Bounds___eq__, .func (PySem.W.fnOf "__eq__" "Bounds.__eq__" (defArgs s_Bounds___eq__) (defBody s_Bounds___eq__) (defScope s_Bounds___eq__) .none kV_Bounds___eq__ dc_Bounds___eq__ pm_Bounds___eq__ an_Bounds___eq__ cd_Bounds___eq__ ct_Bounds___eq__), sl_Bounds___eq__⟩)
    (c_Bounds___eq__ : PySem.W.codeIn K cd_Bounds___eq__ "Bounds.__eq__" = true)
    (k_Bounds___eq__ : PySem.W.keepIn K (.ref f_Bounds___eq__) = true)
    (a_Bounds___and__ : PySem.W.findIn K (.ref C_Bounds) "__and__" = some (some (.ref f_Bounds___and__)))
    (i_Bounds___and__ : PySem.W.isFn K (.ref f_Bounds___and__) = true)
    (l_Bounds___and__ : K.lookup f_Bounds___and__ = some ⟨oc_Bounds___and__, od_Bounds___and__, .func (PySem.W.fnOf "__and__" "Bounds.__and__" (defArgs s_Bounds___and__) (defBody s_Bounds___and__) (defScope s_Bounds___and__) .none kV_Bounds___and__ dc_Bounds___and__ pm_Bounds___and__ an_Bounds___and__ cd_Bounds___and__ ct_Bounds___and__), sl_Bounds___and__⟩)
    (c_Bounds___and__ : PySem.W.codeIn K cd_Bounds___and__ "Bounds.__and__" = true)
    (k_Bounds___and__ : PySem.W.keepIn K (.ref f_Bounds___and__) = true)
    (a_Bounds___neg__ : PySem.W.findIn K (.ref C_Bounds) "__neg__" = some (some (.ref f_Bounds___neg__)))
    (i_Bounds___neg__ : PySem.W.isFn K (.ref f_Bounds___neg__) = true)
    (l_Bounds___neg__ : K.lookup f_Bounds___neg__ = some ⟨oc_Bounds___neg__, od_Bounds___neg__, .func (PySem.W.fnOf "__neg__" "Bounds.__neg__" (defArgs s_Bounds___neg__) (defBody s_Bounds___neg__) (defScope s_Bounds___neg__) .none kV_Bounds___neg__ dc_Bounds___neg__ pm_Bounds___neg__ an_Bounds___neg__ cd_Bounds___neg__ ct_Bounds___neg__), sl_Bounds___neg__⟩)
    (c_Bounds___neg__ : PySem.W.codeIn K cd_Bounds___neg__ "Bounds.__neg__" = true)
    (k_Bounds___neg__ : PySem.W.keepIn K (.ref f_Bounds___neg__) = true)
    (a_Bounds_width : PySem.W.findIn K (.ref C_Bounds) "width" = some (some (.ref p_Bounds_width)))
    (pa_Bounds_width : PySem.W.specialIn K (.ref p_Bounds_width) "__get__" = some (some (.builtin "property.__get__")))
    (pt_Bounds_width : PySem.W.takesIn K (.ref p_Bounds_width) = some true)
    (pr_Bounds_width : PySem.W.recIn K p_Bounds_width "property" = some (.ref f_Bounds_width :: r_Bounds_width))
    (l_Bounds_width : K.lookup f_Bounds_width = some ⟨oc_Bounds_width, od_Bounds_width, .func (PySem.W.fnOf "width" "Bounds.width" (defArgs s_Bounds_width) (defBody s_Bounds_width) (defScope s_Bounds_width) .none kV_Bounds_width dc_Bounds_width pm_Bounds_width an_Bounds_width cd_Bounds_width ct_Bounds_width), sl_Bounds_width⟩)
    (c_Bounds_width : PySem.W.codeIn K cd_Bounds_width "Bounds.width" = true)
    (k_Bounds_width : PySem.W.keepIn K (.ref f_Bounds_width) = true)
    (rd_Bounds : PySem.W.readsIn K C_Bounds (.type "type") = true)
    (ga_Bounds : PySem.W.specialIn K (.ref C_Bounds) "__getattribute__" = some (some (.builtin "type.__getattribute__")))
    (a_Bounds_exact : PySem.W.findCls K (.ref C_Bounds) (.type "type") "exact" = some (.get (.builtin "classmethod.__get__") (.ref p_Bounds_exact) .none (.ref C_Bounds)))
    (pr_Bounds_exact : PySem.W.recIn K p_Bounds_exact "classmethod" = some (.ref f_Bounds_exact :: r_Bounds_exact))
    (fi_Bounds_exact : PySem.W.fnIn K f_Bounds_exact = true)
    (l_Bounds_exact : K.lookup f_Bounds_exact = some ⟨oc_Bounds_exact, od_Bounds_exact, .func (PySem.W.fnOf "exact" "Bounds.exact" (defArgs s_Bounds_exact) (defBody s_Bounds_exact) (defScope s_Bounds_exact) .none kV_Bounds_exact dc_Bounds_exact pm_Bounds_exact an_Bounds_exact cd_Bounds_exact ct_Bounds_exact), sl_Bounds_exact⟩)
    (c_Bounds_exact : PySem.W.codeIn K cd_Bounds_exact "Bounds.exact" = true)
    (k_Bounds_exact : PySem.W.keepIn K (.ref f_Bounds_exact) = true)
    (a_is_height : PySem.W.nsIn K mainGlobals "is_height" = some (some (.ref f_is_height)))
    (l_is_height : K.lookup f_is_height = some ⟨oc_is_height, od_is_height, .func (PySem.W.fnOf "is_height" "is_height" (defArgs s_is_height) (defBody s_is_height) (defScope s_is_height) .none kV_is_height dc_is_height pm_is_height an_is_height cd_is_height ct_is_height), sl_is_height⟩)
    (c_is_height : PySem.W.codeIn K cd_is_height "is_height" = true)
    (k_is_height : PySem.W.keepIn K (.ref f_is_height) = true)
    (a__law_cell : PySem.W.nsIn K mainGlobals "_law_cell" = some (some (.ref f__law_cell)))
    (l__law_cell : K.lookup f__law_cell = some ⟨oc__law_cell, od__law_cell, .func (PySem.W.fnOf "_law_cell" "_law_cell" (defArgs s__law_cell) (defBody s__law_cell) (defScope s__law_cell) .none kV__law_cell dc__law_cell pm__law_cell an__law_cell cd__law_cell ct__law_cell), sl__law_cell⟩)
    (c__law_cell : PySem.W.codeIn K cd__law_cell "_law_cell" = true)
    (k__law_cell : PySem.W.keepIn K (.ref f__law_cell) = true)
    (a__law_box : PySem.W.nsIn K mainGlobals "_law_box" = some (some (.ref f__law_box)))
    (l__law_box : K.lookup f__law_box = some ⟨oc__law_box, od__law_box, .func (PySem.W.fnOf "_law_box" "_law_box" (defArgs s__law_box) (defBody s__law_box) (defScope s__law_box) .none kV__law_box dc__law_box pm__law_box an__law_box cd__law_box ct__law_box), sl__law_box⟩)
    (c__law_box : PySem.W.codeIn K cd__law_box "_law_box" = true)
    (k__law_box : PySem.W.keepIn K (.ref f__law_box) = true)
    (a__law_take : PySem.W.nsIn K mainGlobals "_law_take" = some (some (.ref f__law_take)))
    (l__law_take : K.lookup f__law_take = some ⟨oc__law_take, od__law_take, .func (PySem.W.fnOf "_law_take" "_law_take" (defArgs s__law_take) (defBody s__law_take) (defScope s__law_take) .none kV__law_take dc__law_take pm__law_take an__law_take cd__law_take ct__law_take), sl__law_take⟩)
    (c__law_take : PySem.W.codeIn K cd__law_take "_law_take" = true)
    (k__law_take : PySem.W.keepIn K (.ref f__law_take) = true)
    (a__law_drawn : PySem.W.nsIn K mainGlobals "_law_drawn" = some (some (.ref f__law_drawn)))
    (l__law_drawn : K.lookup f__law_drawn = some ⟨oc__law_drawn, od__law_drawn, .func (PySem.W.fnOf "_law_drawn" "_law_drawn" (defArgs s__law_drawn) (defBody s__law_drawn) (defScope s__law_drawn) .none kV__law_drawn dc__law_drawn pm__law_drawn an__law_drawn cd__law_drawn ct__law_drawn), sl__law_drawn⟩)
    (c__law_drawn : PySem.W.codeIn K cd__law_drawn "_law_drawn" = true)
    (k__law_drawn : PySem.W.keepIn K (.ref f__law_drawn) = true)
    (a__law_refused : PySem.W.nsIn K mainGlobals "_law_refused" = some (some (.ref f__law_refused)))
    (l__law_refused : K.lookup f__law_refused = some ⟨oc__law_refused, od__law_refused, .func (PySem.W.fnOf "_law_refused" "_law_refused" (defArgs s__law_refused) (defBody s__law_refused) (defScope s__law_refused) .none kV__law_refused dc__law_refused pm__law_refused an__law_refused cd__law_refused ct__law_refused), sl__law_refused⟩)
    (c__law_refused : PySem.W.codeIn K cd__law_refused "_law_refused" = true)
    (k__law_refused : PySem.W.keepIn K (.ref f__law_refused) = true)
    (a__law_common : PySem.W.nsIn K mainGlobals "_law_common" = some (some (.ref f__law_common)))
    (l__law_common : K.lookup f__law_common = some ⟨oc__law_common, od__law_common, .func (PySem.W.fnOf "_law_common" "_law_common" (defArgs s__law_common) (defBody s__law_common) (defScope s__law_common) .none kV__law_common dc__law_common pm__law_common an__law_common cd__law_common ct__law_common), sl__law_common⟩)
    (c__law_common : PySem.W.codeIn K cd__law_common "_law_common" = true)
    (k__law_common : PySem.W.keepIn K (.ref f__law_common) = true)
    (a__law_doors : PySem.W.nsIn K mainGlobals "_law_doors" = some (some (.ref f__law_doors)))
    (l__law_doors : K.lookup f__law_doors = some ⟨oc__law_doors, od__law_doors, .func (PySem.W.fnOf "_law_doors" "_law_doors" (defArgs s__law_doors) (defBody s__law_doors) (defScope s__law_doors) .none kV__law_doors dc__law_doors pm__law_doors an__law_doors cd__law_doors ct__law_doors), sl__law_doors⟩)
    (c__law_doors : PySem.W.codeIn K cd__law_doors "_law_doors" = true)
    (k__law_doors : PySem.W.keepIn K (.ref f__law_doors) = true)
    (a__law_right : PySem.W.nsIn K mainGlobals "_law_right" = some (some (.ref f__law_right)))
    (l__law_right : K.lookup f__law_right = some ⟨oc__law_right, od__law_right, .func (PySem.W.fnOf "_law_right" "_law_right" (defArgs s__law_right) (defBody s__law_right) (defScope s__law_right) .none kV__law_right dc__law_right pm__law_right an__law_right cd__law_right ct__law_right), sl__law_right⟩)
    (c__law_right : PySem.W.codeIn K cd__law_right "_law_right" = true)
    (k__law_right : PySem.W.keepIn K (.ref f__law_right) = true)
    (a_law : PySem.W.nsIn K mainGlobals "law" = some (some (.ref f_law)))
    (l_law : K.lookup f_law = some ⟨oc_law, od_law, .func (PySem.W.fnOf "law" "law" (defArgs s_law) (defBody s_law) (defScope s_law) .none kV_law dc_law pm_law an_law cd_law ct_law), sl_law⟩)
    (c_law : PySem.W.codeIn K cd_law "law" = true)
    (k_law : PySem.W.keepIn K (.ref f_law) = true)
    (z_super : PySem.W.nsIn K mainGlobals "super" = some none)
    (tp_any : PySem.W.nsIn K cStatics "thirdparty.any" = some none)
    (top_super : (l.prog.main.scope.names.lookup ("super" : Str)).isSome = false)
    (n_InvalidHeight : PySem.W.nsIn K mainGlobals "InvalidHeight" = some (some (.ref C_InvalidHeight)))
    (xl_InvalidHeight : K.lookup C_InvalidHeight = some (excClassObj nm_InvalidHeight q_InvalidHeight C_InvalidHeight N_InvalidHeight bs_InvalidHeight bm_InvalidHeight true sn_InvalidHeight sub_InvalidHeight ab_InvalidHeight col_InvalidHeight dd_InvalidHeight m0_InvalidHeight m1_InvalidHeight m2_InvalidHeight m3_InvalidHeight m5_InvalidHeight "ValueError.__new__"))
    (xr_InvalidHeight : PySem.HandSPX.refsVE bm_InvalidHeight = true)
    (sa_InvalidHeight : PySem.W.findIn K (.ref C_InvalidHeight) "__setattr__" = some (some (.builtin "object.__setattr__")))
    (eC_InvalidHeight : PySem.W.subIn K (.ref C_InvalidHeight) (.type "BaseException") = some true)
    (tc_InvalidHeight : PySem.W.typeIn K (.ref C_InvalidHeight) = some (.type "type"))
    (ic_InvalidHeight : PySem.W.isClsIn K C_InvalidHeight = true)
    (kp_InvalidHeight : PySem.W.keepIn K (.ref C_InvalidHeight) = true)
    (ga_InvalidHeight : PySem.W.findIn K (.ref C_InvalidHeight) "__getattribute__" = some (some (.builtin "BaseException.__getattribute__")))
    (gg_InvalidHeight : PySem.W.findIn K (.ref C_InvalidHeight) "__getattr__" = some none)
    (hd_InvalidHeight : PySem.W.hasDictIn K C_InvalidHeight = true)
    (na_InvalidHeight_value : PySem.W.findIn K (.ref C_InvalidHeight) "value" = some none)
    (a_InvalidHeight___init__ : PySem.W.findIn K (.ref C_InvalidHeight) "__init__" = some (some (.ref f_InvalidHeight___init__)))
    (t_InvalidHeight___init__ : PySem.W.typeIn K (.ref f_InvalidHeight___init__) = some (.type "function"))
    (l_InvalidHeight___init__ : K.lookup f_InvalidHeight___init__ = some ⟨oc_InvalidHeight___init__, od_InvalidHeight___init__, .func (PySem.W.ksFn "__init__" "InvalidHeight.__init__" (defArgs s_InvalidHeight___init__) (defBody s_InvalidHeight___init__) (defScope s_InvalidHeight___init__) .none kV_InvalidHeight___init__ dc_InvalidHeight___init__ pm_InvalidHeight___init__ an_InvalidHeight___init__ (.ref cda_InvalidHeight___init__) ct_InvalidHeight___init__ cc_InvalidHeight___init__), sl_InvalidHeight___init__⟩)
    (c_InvalidHeight___init__ : PySem.W.codeIn K (.ref cda_InvalidHeight___init__) "InvalidHeight.__init__" = true)
    (d_InvalidHeight___init__ : K.lookup cda_InvalidHeight___init__ = some ⟨ccl_InvalidHeight___init__, cdd_InvalidHeight___init__, .fields cvs_InvalidHeight___init__, ccs_InvalidHeight___init__⟩)
    (f_2_InvalidHeight___init__ : cvs_InvalidHeight___init__[2]? = some (.str fl_InvalidHeight___init__ tf_InvalidHeight___init__))
    (g_InvalidHeight___init__ : ((l.prog.main.file : Str) == fl_InvalidHeight___init__) = true)
    (e_InvalidHeight___init__ : K.lookup cc_InvalidHeight___init__ = some ⟨cl_InvalidHeight___init__, cld_InvalidHeight___init__, .cell (some (.ref C_InvalidHeight)), csl_InvalidHeight___init__⟩)
    (q_InvalidHeight___init__ : PySem.W.clsIn K C_InvalidHeight = some cdC_InvalidHeight___init__)
    (m_InvalidHeight___init__ : PySem.W.mroIn K C_InvalidHeight (.ref C_InvalidHeight) = some true)
    (u_InvalidHeight___init__ : PySem.W.ks_superIn K C_InvalidHeight C_InvalidHeight "__init__" = some (some (.builtin "ValueError.__init__")))
    (v_InvalidHeight___init__ : PySem.W.subIn K (.ref C_InvalidHeight) (.type "ValueError") = some true)
    (n_InvalidBounds : PySem.W.nsIn K mainGlobals "InvalidBounds" = some (some (.ref C_InvalidBounds)))
    (xl_InvalidBounds : K.lookup C_InvalidBounds = some (excClassObj nm_InvalidBounds q_InvalidBounds C_InvalidBounds N_InvalidBounds bs_InvalidBounds bm_InvalidBounds true sn_InvalidBounds sub_InvalidBounds ab_InvalidBounds col_InvalidBounds dd_InvalidBounds m0_InvalidBounds m1_InvalidBounds m2_InvalidBounds m3_InvalidBounds m5_InvalidBounds "ValueError.__new__"))
    (xr_InvalidBounds : PySem.HandSPX.refsVE bm_InvalidBounds = true)
    (sa_InvalidBounds : PySem.W.findIn K (.ref C_InvalidBounds) "__setattr__" = some (some (.builtin "object.__setattr__")))
    (eC_InvalidBounds : PySem.W.subIn K (.ref C_InvalidBounds) (.type "BaseException") = some true)
    (tc_InvalidBounds : PySem.W.typeIn K (.ref C_InvalidBounds) = some (.type "type"))
    (ic_InvalidBounds : PySem.W.isClsIn K C_InvalidBounds = true)
    (kp_InvalidBounds : PySem.W.keepIn K (.ref C_InvalidBounds) = true)
    (ga_InvalidBounds : PySem.W.findIn K (.ref C_InvalidBounds) "__getattribute__" = some (some (.builtin "BaseException.__getattribute__")))
    (gg_InvalidBounds : PySem.W.findIn K (.ref C_InvalidBounds) "__getattr__" = some none)
    (hd_InvalidBounds : PySem.W.hasDictIn K C_InvalidBounds = true)
    (na_InvalidBounds_low : PySem.W.findIn K (.ref C_InvalidBounds) "low" = some none)
    (na_InvalidBounds_high : PySem.W.findIn K (.ref C_InvalidBounds) "high" = some none)
    (a_InvalidBounds___init__ : PySem.W.findIn K (.ref C_InvalidBounds) "__init__" = some (some (.ref f_InvalidBounds___init__)))
    (t_InvalidBounds___init__ : PySem.W.typeIn K (.ref f_InvalidBounds___init__) = some (.type "function"))
    (l_InvalidBounds___init__ : K.lookup f_InvalidBounds___init__ = some ⟨oc_InvalidBounds___init__, od_InvalidBounds___init__, .func (PySem.W.ksFn "__init__" "InvalidBounds.__init__" (defArgs s_InvalidBounds___init__) (defBody s_InvalidBounds___init__) (defScope s_InvalidBounds___init__) .none kV_InvalidBounds___init__ dc_InvalidBounds___init__ pm_InvalidBounds___init__ an_InvalidBounds___init__ (.ref cda_InvalidBounds___init__) ct_InvalidBounds___init__ cc_InvalidBounds___init__), sl_InvalidBounds___init__⟩)
    (c_InvalidBounds___init__ : PySem.W.codeIn K (.ref cda_InvalidBounds___init__) "InvalidBounds.__init__" = true)
    (d_InvalidBounds___init__ : K.lookup cda_InvalidBounds___init__ = some ⟨ccl_InvalidBounds___init__, cdd_InvalidBounds___init__, .fields cvs_InvalidBounds___init__, ccs_InvalidBounds___init__⟩)
    (f_2_InvalidBounds___init__ : cvs_InvalidBounds___init__[2]? = some (.str fl_InvalidBounds___init__ tf_InvalidBounds___init__))
    (g_InvalidBounds___init__ : ((l.prog.main.file : Str) == fl_InvalidBounds___init__) = true)
    (e_InvalidBounds___init__ : K.lookup cc_InvalidBounds___init__ = some ⟨cl_InvalidBounds___init__, cld_InvalidBounds___init__, .cell (some (.ref C_InvalidBounds)), csl_InvalidBounds___init__⟩)
    (q_InvalidBounds___init__ : PySem.W.clsIn K C_InvalidBounds = some cdC_InvalidBounds___init__)
    (m_InvalidBounds___init__ : PySem.W.mroIn K C_InvalidBounds (.ref C_InvalidBounds) = some true)
    (u_InvalidBounds___init__ : PySem.W.ks_superIn K C_InvalidBounds C_InvalidBounds "__init__" = some (some (.builtin "ValueError.__init__")))
    (v_InvalidBounds___init__ : PySem.W.subIn K (.ref C_InvalidBounds) (.type "ValueError") = some true)
    (n_Contradiction : PySem.W.nsIn K mainGlobals "Contradiction" = some (some (.ref C_Contradiction)))
    (xl_Contradiction : K.lookup C_Contradiction = some (excClassObj nm_Contradiction q_Contradiction C_Contradiction N_Contradiction bs_Contradiction bm_Contradiction true sn_Contradiction sub_Contradiction ab_Contradiction col_Contradiction dd_Contradiction m0_Contradiction m1_Contradiction m2_Contradiction m3_Contradiction m5_Contradiction "ValueError.__new__"))
    (xr_Contradiction : PySem.HandSPX.refsVE bm_Contradiction = true)
    (sa_Contradiction : PySem.W.findIn K (.ref C_Contradiction) "__setattr__" = some (some (.builtin "object.__setattr__")))
    (eC_Contradiction : PySem.W.subIn K (.ref C_Contradiction) (.type "BaseException") = some true)
    (tc_Contradiction : PySem.W.typeIn K (.ref C_Contradiction) = some (.type "type"))
    (ic_Contradiction : PySem.W.isClsIn K C_Contradiction = true)
    (kp_Contradiction : PySem.W.keepIn K (.ref C_Contradiction) = true)
    (ga_Contradiction : PySem.W.findIn K (.ref C_Contradiction) "__getattribute__" = some (some (.builtin "BaseException.__getattribute__")))
    (gg_Contradiction : PySem.W.findIn K (.ref C_Contradiction) "__getattr__" = some none)
    (hd_Contradiction : PySem.W.hasDictIn K C_Contradiction = true)
    (na_Contradiction_one : PySem.W.findIn K (.ref C_Contradiction) "one" = some none)
    (na_Contradiction_other : PySem.W.findIn K (.ref C_Contradiction) "other" = some none)
    (a_Contradiction___init__ : PySem.W.findIn K (.ref C_Contradiction) "__init__" = some (some (.ref f_Contradiction___init__)))
    (t_Contradiction___init__ : PySem.W.typeIn K (.ref f_Contradiction___init__) = some (.type "function"))
    (l_Contradiction___init__ : K.lookup f_Contradiction___init__ = some ⟨oc_Contradiction___init__, od_Contradiction___init__, .func (PySem.W.ksFn "__init__" "Contradiction.__init__" (defArgs s_Contradiction___init__) (defBody s_Contradiction___init__) (defScope s_Contradiction___init__) .none kV_Contradiction___init__ dc_Contradiction___init__ pm_Contradiction___init__ an_Contradiction___init__ (.ref cda_Contradiction___init__) ct_Contradiction___init__ cc_Contradiction___init__), sl_Contradiction___init__⟩)
    (c_Contradiction___init__ : PySem.W.codeIn K (.ref cda_Contradiction___init__) "Contradiction.__init__" = true)
    (d_Contradiction___init__ : K.lookup cda_Contradiction___init__ = some ⟨ccl_Contradiction___init__, cdd_Contradiction___init__, .fields cvs_Contradiction___init__, ccs_Contradiction___init__⟩)
    (f_2_Contradiction___init__ : cvs_Contradiction___init__[2]? = some (.str fl_Contradiction___init__ tf_Contradiction___init__))
    (g_Contradiction___init__ : ((l.prog.main.file : Str) == fl_Contradiction___init__) = true)
    (e_Contradiction___init__ : K.lookup cc_Contradiction___init__ = some ⟨cl_Contradiction___init__, cld_Contradiction___init__, .cell (some (.ref C_Contradiction)), csl_Contradiction___init__⟩)
    (q_Contradiction___init__ : PySem.W.clsIn K C_Contradiction = some cdC_Contradiction___init__)
    (m_Contradiction___init__ : PySem.W.mroIn K C_Contradiction (.ref C_Contradiction) = some true)
    (u_Contradiction___init__ : PySem.W.ks_superIn K C_Contradiction C_Contradiction "__init__" = some (some (.builtin "ValueError.__init__")))
    (v_Contradiction___init__ : PySem.W.subIn K (.ref C_Contradiction) (.type "ValueError") = some true)
    (s_hHH : PySem.W.subIn K (.ref C_InvalidHeight) (.ref C_InvalidHeight) = some true)
    (s_hIH : PySem.W.subIn K (.ref C_InvalidBounds) (.ref C_InvalidHeight) = some false)
    (s_hII : PySem.W.subIn K (.ref C_InvalidBounds) (.ref C_InvalidBounds) = some true)
    (s_hCC : PySem.W.subIn K (.ref C_Contradiction) (.ref C_Contradiction) = some true)
    (s_nBI : PySem.W.subIn K (.type "int") (.ref C_Bounds) = some false)
    (fBI : PySem.W.notFirst K C_Bounds (.type "int") = true)
    (s_nBT : PySem.W.subIn K (.type "tuple") (.ref C_Bounds) = some false)
    (fBT : PySem.W.notFirst K C_Bounds (.type "tuple") = true)
    (s_nBL : PySem.W.subIn K (.type "list") (.ref C_Bounds) = some false)
    (fBL : PySem.W.notFirst K C_Bounds (.type "list") = true)
    (fB0 : PySem.W.notFirst K C_Bounds (.ref C_Bounds) = true) :
    ∃ fd : FuncData, (∀ (s : Shared) (v : Value), BindsTo s fd ⟨[v], []⟩ [("_law_script", v)]) ∧ ∀ base : Heap, K.In base → base.Ns mainGlobals mg → FnOk l.prog w K mg base CX0 9 fa fd ["_law_script"] (spLaw K) := by
  have e := hfa.symm.trans (PySem.W.mg_of X G a_law)
  cases e
  have B : Bt mg t_MOST_HEIGHT C_Bounds := ⟨PySem.W.mg_none_of X G z_isinstance, PySem.W.mg_none_of X G z_int, PySem.W.mg_none_of X G z_bool, PySem.W.mg_none_of X G z_len, PySem.W.mg_none_of X G z_max, PySem.W.mg_none_of X G z_min, PySem.W.mg_none_of X G z_repr, PySem.W.mg_none_of X G z_range, PySem.W.mg_none_of X G z_sorted, PySem.W.mg_of X G g_MOST_HEIGHT, PySem.W.mg_of X G n_Bounds⟩
  have T_Bounds : Cls K C_Bounds := ⟨pg_Bounds, hd_Bounds, po_Bounds, sa_Bounds⟩
  have Ty_Bounds : ∀ {H : Hp} {a dx : Addr} {fs : List (Str × V)}, H a = some (.ins C_Bounds dx fs) → TyX K H (.ref a) (.ref C_Bounds) := fun e => .base (.ins e T_Bounds ha_Bounds hn_Bounds ht_Bounds hm_Bounds)
  have F_Bounds___init__ := fun_mk (st := s_Bounds___init__) l_Bounds___init__ c_Bounds___init__ k_Bounds___init__
  have b_Bounds___init__ := F_Bounds___init__.binds (ps := ["self", "low", "high"]) fun _ _ _ _ _ _ us hl => match us, hl with | [_, _, _], _ => rfl
  have M_Bounds : Mk K C_Bounds f_Bounds___init__ := ⟨mk_Bounds, a_Bounds___init__, i_Bounds___init__, kp_Bounds⟩
  have F_Bounds_holds := fun_mk (st := s_Bounds_holds) l_Bounds_holds c_Bounds_holds k_Bounds_holds
  have b_Bounds_holds := F_Bounds_holds.binds (ps := ["self", "other"]) fun _ _ _ _ _ _ us hl => match us, hl with | [_, _], _ => rfl
  have S_Bounds_holds : Ow.Spec K C_Bounds "holds" f_Bounds_holds := ⟨a_Bounds_holds, i_Bounds_holds⟩
  have N_Bounds_holds : Meth K C_Bounds "holds" f_Bounds_holds := ⟨a_Bounds_holds, i_Bounds_holds, k_Bounds_holds⟩
  have F_Bounds___contains__ := fun_mk (st := s_Bounds___contains__) l_Bounds___contains__ c_Bounds___contains__ k_Bounds___contains__
  have b_Bounds___contains__ := F_Bounds___contains__.binds (ps := ["self", "value"]) fun _ _ _ _ _ _ us hl => match us, hl with | [_, _], _ => rfl
  have S_Bounds___contains__ : Ow.Spec K C_Bounds "__contains__" f_Bounds___contains__ := ⟨a_Bounds___contains__, i_Bounds___contains__⟩
  have N_Bounds___contains__ : Meth K C_Bounds "__contains__" f_Bounds___contains__ := ⟨a_Bounds___contains__, i_Bounds___contains__, k_Bounds___contains__⟩
  have F_Bounds___eq__ := fun_mk (st := s_Bounds___eq__) l_Bounds___eq__ c_Bounds___eq__ k_Bounds___eq__
  have b_Bounds___eq__ := F_Bounds___eq__.binds (ps := ["self", "other"]) fun _ _ _ _ _ _ us hl => match us, hl with | [_, _], _ => rfl
  have S_Bounds___eq__ : Ow.Spec K C_Bounds "__eq__" f_Bounds___eq__ := ⟨a_Bounds___eq__, i_Bounds___eq__⟩
  have N_Bounds___eq__ : Meth K C_Bounds "__eq__" f_Bounds___eq__ := ⟨a_Bounds___eq__, i_Bounds___eq__, k_Bounds___eq__⟩
  have F_Bounds___and__ := fun_mk (st := s_Bounds___and__) l_Bounds___and__ c_Bounds___and__ k_Bounds___and__
  have b_Bounds___and__ := F_Bounds___and__.binds (ps := ["self", "other"]) fun _ _ _ _ _ _ us hl => match us, hl with | [_, _], _ => rfl
  have S_Bounds___and__ : Ow.Spec K C_Bounds "__and__" f_Bounds___and__ := ⟨a_Bounds___and__, i_Bounds___and__⟩
  have N_Bounds___and__ : Meth K C_Bounds "__and__" f_Bounds___and__ := ⟨a_Bounds___and__, i_Bounds___and__, k_Bounds___and__⟩
  have F_Bounds___neg__ := fun_mk (st := s_Bounds___neg__) l_Bounds___neg__ c_Bounds___neg__ k_Bounds___neg__
  have b_Bounds___neg__ := F_Bounds___neg__.binds (ps := ["self"]) fun _ _ _ _ _ _ us hl => match us, hl with | [_], _ => rfl
  have S_Bounds___neg__ : Ow.Spec K C_Bounds "__neg__" f_Bounds___neg__ := ⟨a_Bounds___neg__, i_Bounds___neg__⟩
  have N_Bounds___neg__ : Meth K C_Bounds "__neg__" f_Bounds___neg__ := ⟨a_Bounds___neg__, i_Bounds___neg__, k_Bounds___neg__⟩
  have F_Bounds_width := fun_mk (st := s_Bounds_width) l_Bounds_width c_Bounds_width k_Bounds_width
  have b_Bounds_width := F_Bounds_width.binds (ps := ["self"]) fun _ _ _ _ _ _ us hl => match us, hl with | [_], _ => rfl
  have P_Bounds_width : PropOf K C_Bounds "width" p_Bounds_width f_Bounds_width := ⟨a_Bounds_width, pa_Bounds_width, pt_Bounds_width, ⟨_, pr_Bounds_width⟩⟩
  have R_Bounds : ClX.CRead K C_Bounds (.type "type") := ⟨rd_Bounds, ga_Bounds⟩
  have F_Bounds_exact := fun_mk (st := s_Bounds_exact) l_Bounds_exact c_Bounds_exact k_Bounds_exact
  have b_Bounds_exact := F_Bounds_exact.binds (ps := ["cls", "height"]) fun _ _ _ _ _ _ us hl => match us, hl with | [_, _], _ => rfl
  have CM_Bounds_exact : ClX.CMet K C_Bounds (.type "type") "exact" p_Bounds_exact f_Bounds_exact := ⟨a_Bounds_exact, ⟨_, pr_Bounds_exact⟩, fi_Bounds_exact⟩
  have F_is_height := fun_mk (st := s_is_height) l_is_height c_is_height k_is_height
  have b_is_height := F_is_height.binds (ps := ["value"]) fun _ _ _ _ _ _ us hl => match us, hl with | [_], _ => rfl
  have F__law_cell := fun_mk (st := s__law_cell) l__law_cell c__law_cell k__law_cell
  have b__law_cell := F__law_cell.binds (ps := ["_law_script", "_law_k"]) fun _ _ _ _ _ _ us hl => match us, hl with | [_, _], _ => rfl
  have F__law_box := fun_mk (st := s__law_box) l__law_box c__law_box k__law_box
  have b__law_box := F__law_box.binds (ps := ["_law_cell_here"]) fun _ _ _ _ _ _ us hl => match us, hl with | [_], _ => rfl
  have F__law_take := fun_mk (st := s__law_take) l__law_take c__law_take k__law_take
  have b__law_take := F__law_take.binds (ps := ["_law_box_here", "_law_many"]) fun _ _ _ _ _ _ us hl => match us, hl with | [_, _], _ => rfl
  have F__law_drawn := fun_mk (st := s__law_drawn) l__law_drawn c__law_drawn k__law_drawn
  have b__law_drawn := F__law_drawn.binds (ps := ["_law_box_here"]) fun _ _ _ _ _ _ us hl => match us, hl with | [_], _ => rfl
  have F__law_refused := fun_mk (st := s__law_refused) l__law_refused c__law_refused k__law_refused
  have b__law_refused := F__law_refused.binds (ps := ["_law_least", "_law_most"]) fun _ _ _ _ _ _ us hl => match us, hl with | [_, _], _ => rfl
  have F__law_common := fun_mk (st := s__law_common) l__law_common c__law_common k__law_common
  have b__law_common := F__law_common.binds (ps := ["_law_one", "_law_other"]) fun _ _ _ _ _ _ us hl => match us, hl with | [_, _], _ => rfl
  have F__law_doors := fun_mk (st := s__law_doors) l__law_doors c__law_doors k__law_doors
  have b__law_doors := F__law_doors.binds (ps := ["_law_box_here", "_law_a", "_law_b"]) fun _ _ _ _ _ _ us hl => match us, hl with | [_, _, _], _ => rfl
  have F__law_right := fun_mk (st := s__law_right) l__law_right c__law_right k__law_right
  have b__law_right := F__law_right.binds (ps := ["_law_a", "_law_b", "_law_c", "_law_d"]) fun _ _ _ _ _ _ us hl => match us, hl with | [_, _, _, _], _ => rfl
  have F_law := fun_mk (st := s_law) l_law c_law k_law
  have O_InvalidHeight : OexC K C_InvalidHeight := ⟨⟨_, _, _, _, _, _, _, _, _, _, _, _, _, _, _, xl_InvalidHeight, xr_InvalidHeight⟩, sa_InvalidHeight, eC_InvalidHeight, tc_InvalidHeight, kp_InvalidHeight⟩
  have U_InvalidHeight : Xs.SupT l.prog K mg C_InvalidHeight f_InvalidHeight___init__ "__init__" "InvalidHeight.__init__" (defArgs s_InvalidHeight___init__) (defBody s_InvalidHeight___init__) (defScope s_InvalidHeight___init__) _ := ⟨O_InvalidHeight, a_InvalidHeight___init__, t_InvalidHeight___init__, ⟨_, _, _, _, _, _, _, _, _, _, _, _, _, _, _, _, _, _, _, _, _, rfl, l_InvalidHeight___init__, c_InvalidHeight___init__, d_InvalidHeight___init__, f_2_InvalidHeight___init__, g_InvalidHeight___init__, e_InvalidHeight___init__, q_InvalidHeight___init__⟩, m_InvalidHeight___init__, u_InvalidHeight___init__, v_InvalidHeight___init__, PySem.W.mg_none_of X G z_super, tp_any, top_super⟩
  have O_InvalidBounds : OexC K C_InvalidBounds := ⟨⟨_, _, _, _, _, _, _, _, _, _, _, _, _, _, _, xl_InvalidBounds, xr_InvalidBounds⟩, sa_InvalidBounds, eC_InvalidBounds, tc_InvalidBounds, kp_InvalidBounds⟩
  have U_InvalidBounds : Xs.SupT l.prog K mg C_InvalidBounds f_InvalidBounds___init__ "__init__" "InvalidBounds.__init__" (defArgs s_InvalidBounds___init__) (defBody s_InvalidBounds___init__) (defScope s_InvalidBounds___init__) _ := ⟨O_InvalidBounds, a_InvalidBounds___init__, t_InvalidBounds___init__, ⟨_, _, _, _, _, _, _, _, _, _, _, _, _, _, _, _, _, _, _, _, _, rfl, l_InvalidBounds___init__, c_InvalidBounds___init__, d_InvalidBounds___init__, f_2_InvalidBounds___init__, g_InvalidBounds___init__, e_InvalidBounds___init__, q_InvalidBounds___init__⟩, m_InvalidBounds___init__, u_InvalidBounds___init__, v_InvalidBounds___init__, PySem.W.mg_none_of X G z_super, tp_any, top_super⟩
  have O_Contradiction : OexC K C_Contradiction := ⟨⟨_, _, _, _, _, _, _, _, _, _, _, _, _, _, _, xl_Contradiction, xr_Contradiction⟩, sa_Contradiction, eC_Contradiction, tc_Contradiction, kp_Contradiction⟩
  have U_Contradiction : Xs.SupT l.prog K mg C_Contradiction f_Contradiction___init__ "__init__" "Contradiction.__init__" (defArgs s_Contradiction___init__) (defBody s_Contradiction___init__) (defScope s_Contradiction___init__) _ := ⟨O_Contradiction, a_Contradiction___init__, t_Contradiction___init__, ⟨_, _, _, _, _, _, _, _, _, _, _, _, _, _, _, _, _, _, _, _, _, rfl, l_Contradiction___init__, c_Contradiction___init__, d_Contradiction___init__, f_2_Contradiction___init__, g_Contradiction___init__, e_Contradiction___init__, q_Contradiction___init__⟩, m_Contradiction___init__, u_Contradiction___init__, v_Contradiction___init__, PySem.W.mg_none_of X G z_super, tp_any, top_super⟩
  have hHH : PySem.W.exmOne K (.ref C_InvalidHeight) (.ref C_InvalidHeight) = some true := Xe.exm_sub eC_InvalidHeight ic_InvalidHeight tc_InvalidHeight s_hHH
  have hIH : PySem.W.exmOne K (.ref C_InvalidBounds) (.ref C_InvalidHeight) = some false := Xe.exm_sub eC_InvalidHeight ic_InvalidHeight tc_InvalidHeight s_hIH
  have hII : PySem.W.exmOne K (.ref C_InvalidBounds) (.ref C_InvalidBounds) = some true := Xe.exm_sub eC_InvalidBounds ic_InvalidBounds tc_InvalidBounds s_hII
  have hCC : PySem.W.exmOne K (.ref C_Contradiction) (.ref C_Contradiction) = some true := Xe.exm_sub eC_Contradiction ic_Contradiction tc_Contradiction s_hCC
  have nBI : PySem.W.kitOne K (.type "int") (.ref C_Bounds) = some false := Xe.kit_sub rfl ic_Bounds tc_Bounds s_nBI
  have nBT : PySem.W.kitOne K (.type "tuple") (.ref C_Bounds) = some false := Xe.kit_sub rfl ic_Bounds tc_Bounds s_nBT
  have nBL : PySem.W.kitOne K (.type "list") (.ref C_Bounds) = some false := Xe.kit_sub rfl ic_Bounds tc_Bounds s_nBL
  have T : BdK K C_Bounds := ⟨T_Bounds, na_Bounds_low, na_Bounds_high⟩
  have J : BdI K C_Bounds := ⟨Ty_Bounds, Xe.kit_self, nBI, nBT, nBL, fB0, fBI, fBT, fBL⟩
  refine ⟨PySem.W.fnOf "law" "law" (defArgs s_law) (defBody s_law) (defScope s_law) .none kV_law dc_law pm_law an_law cd_law ct_law, fun s v => .of_eq rfl, fun base _ _ => ?_⟩
  have X_InvalidHeight : Xs.ExT l.prog w K mg base "InvalidHeight" C_InvalidHeight ["value"] := ⟨PySem.W.mg_of X G n_InvalidHeight, O_InvalidHeight, ⟨ga_InvalidHeight, gg_InvalidHeight, eC_InvalidHeight, hd_InvalidHeight⟩, Xe.no_of1 na_InvalidHeight_value, ⟨_, _, a_InvalidHeight___init__, t_InvalidHeight___init__, Xs.ok_init1 U_InvalidHeight ss_InvalidHeight___init__ (fun env => ⟨_, rfl⟩) na_InvalidHeight_value (by decide) (by decide), Xe.sup_binds fun us hl => match us, hl with | [_, _], _ => rfl⟩⟩
  have X_InvalidBounds : Xs.ExT l.prog w K mg base "InvalidBounds" C_InvalidBounds ["low", "high"] := ⟨PySem.W.mg_of X G n_InvalidBounds, O_InvalidBounds, ⟨ga_InvalidBounds, gg_InvalidBounds, eC_InvalidBounds, hd_InvalidBounds⟩, Xe.no_of2 na_InvalidBounds_low na_InvalidBounds_high, ⟨_, _, a_InvalidBounds___init__, t_InvalidBounds___init__, Xs.ok_init2 U_InvalidBounds ss_InvalidBounds___init__ (fun env => ⟨_, rfl⟩) na_InvalidBounds_low na_InvalidBounds_high (by decide) (by decide) (by decide) (by decide), Xe.sup_binds fun us hl => match us, hl with | [_, _, _], _ => rfl⟩⟩
  have X_Contradiction : Xs.ExT l.prog w K mg base "Contradiction" C_Contradiction ["one", "other"] := ⟨PySem.W.mg_of X G n_Contradiction, O_Contradiction, ⟨ga_Contradiction, gg_Contradiction, eC_Contradiction, hd_Contradiction⟩, Xe.no_of2 na_Contradiction_one na_Contradiction_other, ⟨_, _, a_Contradiction___init__, t_Contradiction___init__, Xs.ok_init2 U_Contradiction ss_Contradiction___init__ (fun env => ⟨_, rfl⟩) na_Contradiction_one na_Contradiction_other (by decide) (by decide) (by decide) (by decide), Xe.sup_binds fun us hl => match us, hl with | [_, _, _], _ => rfl⟩⟩
  have G_is_height : Vc.FnG l.prog w K mg base CX0 1 "is_height" ["value"] (sp_is_height K) := ⟨_, _, ok_is_height F_is_height B, PySem.W.mg_of X G a_is_height, k_is_height, b_is_height⟩
  have G_take : Vc.FnG l.prog w K mg base CX0 1 "_law_take" ["_law_box_here", "_law_many"] sp_take := ⟨_, _, ok_take F__law_take B, PySem.W.mg_of X G a__law_take, k__law_take, b__law_take⟩
  have I_Bounds := ok_binit F_Bounds___init__ B T G_is_height X_InvalidHeight X_InvalidBounds
  have FB := Ow.frC I_Bounds b_Bounds___init__
  have kbI : KBn K _ ["self", "low", "high"] 1 ["high", "low"] (fun us ws => us ++ ws.reverse) (fun us zs => us ++ zs.reverse) := ⟨fun s us ws _ hu hw => match us, ws, hu, hw with | [_], [_, _], _, _ => BindsTo.of_eq (fd := PySem.W.fnOf "__init__" "Bounds.__init__" (defArgs s_Bounds___init__) (defBody s_Bounds___init__) (defScope s_Bounds___init__) .none kV_Bounds___init__ dc_Bounds___init__ pm_Bounds___init__ an_Bounds___init__ cd_Bounds___init__ ct_Bounds___init__) rfl, fun h1 h2 => Xe.vals_rev h1 h2⟩
  have I_exact := ok_exact F_Bounds_exact M_Bounds FB
  have FE := Ow.frC I_exact b_Bounds_exact
  have kbE : KBn K _ ["cls", "height"] 1 ["height"] (fun us ws => us ++ ws) (fun us zs => us ++ zs) := ⟨fun s us ws _ hu hw => match us, ws, hu, hw with | [_], [_], _, _ => BindsTo.of_eq (fd := PySem.W.fnOf "exact" "Bounds.exact" (defArgs s_Bounds_exact) (defBody s_Bounds_exact) (defScope s_Bounds_exact) .none kV_Bounds_exact dc_Bounds_exact pm_Bounds_exact an_Bounds_exact cd_Bounds_exact ct_Bounds_exact) rfl, fun h1 h2 => h1.append h2⟩
  have FA := Ow.frC (ok_band F_Bounds___and__ B T M_Bounds FB X_Contradiction) b_Bounds___and__
  have M : BdM l.prog w K mg base C_Bounds C_InvalidHeight C_InvalidBounds C_Contradiction := ⟨⟨_, M_Bounds, FB, Ow.frK_of I_Bounds kbI⟩, ⟨_, _, _, R_Bounds, CM_Bounds_exact, FE, Ow.frK_of I_exact kbE⟩, ⟨_, _, P_Bounds_width, Ow.frX (ok_width F_Bounds_width T) b_Bounds_width⟩, ⟨_, N_Bounds_holds, Ow.frX (ok_holds F_Bounds_holds T) b_Bounds_holds⟩, ⟨_, S_Bounds___contains__, Ow.frX (ok_bin F_Bounds___contains__ T G_is_height) b_Bounds___contains__⟩, ⟨_, S_Bounds___eq__, Ow.frX (ok_beq F_Bounds___eq__ B T) b_Bounds___eq__⟩, ⟨_, S_Bounds___and__, FA⟩, ⟨_, S_Bounds___neg__, Ow.frX (ok_bneg F_Bounds___neg__ B T M_Bounds FB) b_Bounds___neg__⟩, sf_Bounds⟩
  have G_refused : Vc.FnG l.prog w K mg base CX0 5 "_law_refused" ["_law_least", "_law_most"] (sp_refused K) := ⟨_, _, ok_refused F__law_refused B M_Bounds FB X_InvalidHeight X_InvalidBounds hHH hIH hII, PySem.W.mg_of X G a__law_refused, k__law_refused, b__law_refused⟩
  exact ok_law F_law B ⟨_, _, ok_cell F__law_cell B, PySem.W.mg_of X G a__law_cell, k__law_cell, b__law_cell⟩ ⟨_, _, ok_box F__law_box B, PySem.W.mg_of X G a__law_box, k__law_box, b__law_box⟩ ⟨_, _, ok_drawn F__law_drawn G_take, PySem.W.mg_of X G a__law_drawn, k__law_drawn, b__law_drawn⟩ ⟨_, _, ok_doors F__law_doors B G_take G_refused R_Bounds CM_Bounds_exact FE X_InvalidHeight hHH, PySem.W.mg_of X G a__law_doors, k__law_doors, b__law_doors⟩ ⟨_, _, ok_right F__law_right B T M J ⟨_, _, ok_common F__law_common T S_Bounds___and__ sf_Bounds FA X_Contradiction hCC, PySem.W.mg_of X G a__law_common, k__law_common, b__law_common⟩, PySem.W.mg_of X G a__law_right, k__law_right, b__law_right⟩
theorem walk {l : PySem.W.OpenLaw} {q : Program} {loose : List Str} {XP : (Str → Option Value) → Heap → Prop} {YP : World → Heap → Prop} {d : DefRec} {K : Params → PySem.W.Frag} (hn : l.most = some 63) (hdf : d.params.defaults = [])
    (hY : ∀ (w : World) (h : Heap), YP w h → (K w.params).In h)
    (F : ∀ (w : World) (mg : Str → Option Value) (fa : Addr) (h : Heap), (K w.params).In h → h.Ns mainGlobals mg → mg d.name = some (.ref fa) →
      ∃ fd : FuncData, (∀ (s : Shared) (u : Value), BindsTo s fd ⟨[u], []⟩ [("_law_script", u)]) ∧ ∀ base : Heap, (K w.params).In base → base.Ns mainGlobals mg → FnOk l.prog w (K w.params) mg base CX0 9 fa fd ["_law_script"] (spLaw (K w.params))) :
    PySem.W.WalkO q loose XP YP l.row.toRowW d [] (fun f vs => PySem.call f vs) :=
  L2.walk_of (n := 63) (k := 9) (x := "_law_script") (CX := fun _ => CX0) (sp := fun w => spLaw (K w.params)) hn (by decide) hdf ⟨rfl, by decide, by decide⟩ hY F (fun _ _ a ns hl _ hS => ⟨a, ns, rfl, hS, hl, fun _ => rfl⟩) fun _ _ _ _ _ z => z
end K02
open PySem PySem.W PyProof.Rows
set_option maxRecDepth 100000 in
set_option maxHeartbeats 0 in
theorem PySem.Challenge.cw_surehollows_k02_bounds_and_their_signs_holds : PySem.Challenge.rw_surehollows_k02_bounds_and_their_signs.Holds := by
  w_on; o_law; k_head; (case hw => w_witness2)
  k_fill
  refine K02.walk (l := PySem.Challenge.rw_surehollows_k02_bounds_and_their_signs) rfl rfl (fun w h Y => PySem.W.kIn_of Y) ?F
  case F =>
    intro w mg fa h KX G hmg
    refine' K02.all_mk KX G hmg ?z_isinstance ?z_int ?z_bool ?z_len ?z_max ?z_min ?z_repr ?z_range ?z_sorted ?g_MOST_HEIGHT ?n_Bounds ?pg_Bounds ?hd_Bounds ?po_Bounds ?sa_Bounds ?ha_Bounds ?hn_Bounds ?ht_Bounds ?hm_Bounds ?ic_Bounds ?tc_Bounds ?na_Bounds_low ?na_Bounds_high ?mk_Bounds ?kp_Bounds ?sf_Bounds ?a_Bounds___init__ ?i_Bounds___init__ ?l_Bounds___init__ ?c_Bounds___init__ ?k_Bounds___init__ ?a_Bounds_holds ?i_Bounds_holds ?l_Bounds_holds ?c_Bounds_holds ?k_Bounds_holds ?a_Bounds___contains__ ?i_Bounds___contains__ ?l_Bounds___contains__ ?c_Bounds___contains__ ?k_Bounds___contains__ ?a_Bounds___eq__ ?i_Bounds___eq__ ?l_Bounds___eq__ ?c_Bounds___eq__ ?k_Bounds___eq__ ?a_Bounds___and__ ?i_Bounds___and__ ?l_Bounds___and__ ?c_Bounds___and__ ?k_Bounds___and__ ?a_Bounds___neg__ ?i_Bounds___neg__ ?l_Bounds___neg__ ?c_Bounds___neg__ ?k_Bounds___neg__ ?a_Bounds_width ?pa_Bounds_width ?pt_Bounds_width ?pr_Bounds_width ?l_Bounds_width ?c_Bounds_width ?k_Bounds_width ?rd_Bounds ?ga_Bounds ?a_Bounds_exact ?pr_Bounds_exact ?fi_Bounds_exact ?l_Bounds_exact ?c_Bounds_exact ?k_Bounds_exact ?a_is_height ?l_is_height ?c_is_height ?k_is_height ?a__law_cell ?l__law_cell ?c__law_cell ?k__law_cell ?a__law_box ?l__law_box ?c__law_box ?k__law_box ?a__law_take ?l__law_take ?c__law_take ?k__law_take ?a__law_drawn ?l__law_drawn ?c__law_drawn ?k__law_drawn ?a__law_refused ?l__law_refused ?c__law_refused ?k__law_refused ?a__law_common ?l__law_common ?c__law_common ?k__law_common ?a__law_doors ?l__law_doors ?c__law_doors ?k__law_doors ?a__law_right ?l__law_right ?c__law_right ?k__law_right ?a_law ?l_law ?c_law ?k_law ?z_super ?tp_any ?top_super ?n_InvalidHeight ?xl_InvalidHeight ?xr_InvalidHeight ?sa_InvalidHeight ?eC_InvalidHeight ?tc_InvalidHeight ?ic_InvalidHeight ?kp_InvalidHeight ?ga_InvalidHeight ?gg_InvalidHeight ?hd_InvalidHeight ?na_InvalidHeight_value ?a_InvalidHeight___init__ ?t_InvalidHeight___init__ ?l_InvalidHeight___init__ ?c_InvalidHeight___init__ ?d_InvalidHeight___init__ ?f_2_InvalidHeight___init__ ?g_InvalidHeight___init__ ?e_InvalidHeight___init__ ?q_InvalidHeight___init__ ?m_InvalidHeight___init__ ?u_InvalidHeight___init__ ?v_InvalidHeight___init__ ?n_InvalidBounds ?xl_InvalidBounds ?xr_InvalidBounds ?sa_InvalidBounds ?eC_InvalidBounds ?tc_InvalidBounds ?ic_InvalidBounds ?kp_InvalidBounds ?ga_InvalidBounds ?gg_InvalidBounds ?hd_InvalidBounds ?na_InvalidBounds_low ?na_InvalidBounds_high ?a_InvalidBounds___init__ ?t_InvalidBounds___init__ ?l_InvalidBounds___init__ ?c_InvalidBounds___init__ ?d_InvalidBounds___init__ ?f_2_InvalidBounds___init__ ?g_InvalidBounds___init__ ?e_InvalidBounds___init__ ?q_InvalidBounds___init__ ?m_InvalidBounds___init__ ?u_InvalidBounds___init__ ?v_InvalidBounds___init__ ?n_Contradiction ?xl_Contradiction ?xr_Contradiction ?sa_Contradiction ?eC_Contradiction ?tc_Contradiction ?ic_Contradiction ?kp_Contradiction ?ga_Contradiction ?gg_Contradiction ?hd_Contradiction ?na_Contradiction_one ?na_Contradiction_other ?a_Contradiction___init__ ?t_Contradiction___init__ ?l_Contradiction___init__ ?c_Contradiction___init__ ?d_Contradiction___init__ ?f_2_Contradiction___init__ ?g_Contradiction___init__ ?e_Contradiction___init__ ?q_Contradiction___init__ ?m_Contradiction___init__ ?u_Contradiction___init__ ?v_Contradiction___init__ ?s_hHH ?s_hIH ?s_hII ?s_hCC ?s_nBI ?fBI ?s_nBT ?fBT ?s_nBL ?fBL ?fB0
    (case z_isinstance => k_is)
    (case z_int => k_is)
    (case z_bool => k_is)
    (case z_len => k_is)
    (case z_max => k_is)
    (case z_min => k_is)
    (case z_repr => k_is)
    (case z_range => k_is)
    (case z_sorted => k_is)
    (case g_MOST_HEIGHT => k_is)
    (case n_Bounds => k_is)
    (case pg_Bounds => k_is)
    (case hd_Bounds => k_is)
    (case po_Bounds => k_is)
    (case sa_Bounds => k_is)
    (case ha_Bounds => k_is)
    (case hn_Bounds => k_is)
    (case ht_Bounds => k_is)
    (case hm_Bounds => k_is)
    (case ic_Bounds => k_is)
    (case tc_Bounds => k_is)
    (case na_Bounds_low => k_is)
    (case na_Bounds_high => k_is)
    (case mk_Bounds => k_is)
    (case kp_Bounds => k_is)
    (case sf_Bounds => k_is)
    (case a_Bounds___init__ => k_is)
    (case i_Bounds___init__ => k_is)
    (case l_Bounds___init__ => k_is)
    (case c_Bounds___init__ => k_is)
    (case k_Bounds___init__ => k_is)
    (case a_Bounds_holds => k_is)
    (case i_Bounds_holds => k_is)
    (case l_Bounds_holds => k_is)
    (case c_Bounds_holds => k_is)
    (case k_Bounds_holds => k_is)
    (case a_Bounds___contains__ => k_is)
    (case i_Bounds___contains__ => k_is)
    (case l_Bounds___contains__ => k_is)
    (case c_Bounds___contains__ => k_is)
    (case k_Bounds___contains__ => k_is)
    (case a_Bounds___eq__ => k_is)
    (case i_Bounds___eq__ => k_is)
    (case l_Bounds___eq__ => k_is)
    (case c_Bounds___eq__ => k_is)
    (case k_Bounds___eq__ => k_is)
    (case a_Bounds___and__ => k_is)
    (case i_Bounds___and__ => k_is)
    (case l_Bounds___and__ => k_is)
    (case c_Bounds___and__ => k_is)
    (case k_Bounds___and__ => k_is)
    (case a_Bounds___neg__ => k_is)
    (case i_Bounds___neg__ => k_is)
    (case l_Bounds___neg__ => k_is)
    (case c_Bounds___neg__ => k_is)
    (case k_Bounds___neg__ => k_is)
    (case a_Bounds_width => k_is)
    (case pa_Bounds_width => k_is)
    (case pt_Bounds_width => k_is)
    (case pr_Bounds_width => k_is)
    (case l_Bounds_width => k_is)
    (case c_Bounds_width => k_is)
    (case k_Bounds_width => k_is)
    (case rd_Bounds => k_is)
    (case ga_Bounds => k_is)
    (case a_Bounds_exact => k_is)
    (case pr_Bounds_exact => k_is)
    (case fi_Bounds_exact => k_is)
    (case l_Bounds_exact => k_is)
    (case c_Bounds_exact => k_is)
    (case k_Bounds_exact => k_is)
    (case a_is_height => k_is)
    (case l_is_height => k_is)
    (case c_is_height => k_is)
    (case k_is_height => k_is)
    (case a__law_cell => k_is)
    (case l__law_cell => k_is)
    (case c__law_cell => k_is)
    (case k__law_cell => k_is)
    (case a__law_box => k_is)
    (case l__law_box => k_is)
    (case c__law_box => k_is)
    (case k__law_box => k_is)
    (case a__law_take => k_is)
    (case l__law_take => k_is)
    (case c__law_take => k_is)
    (case k__law_take => k_is)
    (case a__law_drawn => k_is)
    (case l__law_drawn => k_is)
    (case c__law_drawn => k_is)
    (case k__law_drawn => k_is)
    (case a__law_refused => k_is)
    (case l__law_refused => k_is)
    (case c__law_refused => k_is)
    (case k__law_refused => k_is)
    (case a__law_common => k_is)
    (case l__law_common => k_is)
    (case c__law_common => k_is)
    (case k__law_common => k_is)
    (case a__law_doors => k_is)
    (case l__law_doors => k_is)
    (case c__law_doors => k_is)
    (case k__law_doors => k_is)
    (case a__law_right => k_is)
    (case l__law_right => k_is)
    (case c__law_right => k_is)
    (case k__law_right => k_is)
    (case a_law => k_is)
    (case l_law => k_is)
    (case c_law => k_is)
    (case k_law => k_is)
    (case z_super => k_is)
    (case tp_any => k_is)
    (case top_super => decide +kernel)
    (case n_InvalidHeight => k_is)
    (case xl_InvalidHeight => k_is)
    (case xr_InvalidHeight => decide +kernel)
    (case sa_InvalidHeight => k_is)
    (case eC_InvalidHeight => k_is)
    (case tc_InvalidHeight => k_is)
    (case ic_InvalidHeight => k_is)
    (case kp_InvalidHeight => k_is)
    (case ga_InvalidHeight => k_is)
    (case gg_InvalidHeight => k_is)
    (case hd_InvalidHeight => k_is)
    (case na_InvalidHeight_value => k_is)
    (case a_InvalidHeight___init__ => k_is)
    (case t_InvalidHeight___init__ => k_is)
    (case l_InvalidHeight___init__ => k_is)
    (case c_InvalidHeight___init__ => k_is)
    (case d_InvalidHeight___init__ => k_is)
    (case f_2_InvalidHeight___init__ => exact rfl)
    (case g_InvalidHeight___init__ => decide +kernel)
    (case e_InvalidHeight___init__ => k_is)
    (case q_InvalidHeight___init__ => k_is)
    (case m_InvalidHeight___init__ => k_is)
    (case u_InvalidHeight___init__ => ks_is)
    (case v_InvalidHeight___init__ => k_is)
    (case n_InvalidBounds => k_is)
    (case xl_InvalidBounds => k_is)
    (case xr_InvalidBounds => decide +kernel)
    (case sa_InvalidBounds => k_is)
    (case eC_InvalidBounds => k_is)
    (case tc_InvalidBounds => k_is)
    (case ic_InvalidBounds => k_is)
    (case kp_InvalidBounds => k_is)
    (case ga_InvalidBounds => k_is)
    (case gg_InvalidBounds => k_is)
    (case hd_InvalidBounds => k_is)
    (case na_InvalidBounds_low => k_is)
    (case na_InvalidBounds_high => k_is)
    (case a_InvalidBounds___init__ => k_is)
    (case t_InvalidBounds___init__ => k_is)
    (case l_InvalidBounds___init__ => k_is)
    (case c_InvalidBounds___init__ => k_is)
    (case d_InvalidBounds___init__ => k_is)
    (case f_2_InvalidBounds___init__ => exact rfl)
    (case g_InvalidBounds___init__ => decide +kernel)
    (case e_InvalidBounds___init__ => k_is)
    (case q_InvalidBounds___init__ => k_is)
    (case m_InvalidBounds___init__ => k_is)
    (case u_InvalidBounds___init__ => ks_is)
    (case v_InvalidBounds___init__ => k_is)
    (case n_Contradiction => k_is)
    (case xl_Contradiction => k_is)
    (case xr_Contradiction => decide +kernel)
    (case sa_Contradiction => k_is)
    (case eC_Contradiction => k_is)
    (case tc_Contradiction => k_is)
    (case ic_Contradiction => k_is)
    (case kp_Contradiction => k_is)
    (case ga_Contradiction => k_is)
    (case gg_Contradiction => k_is)
    (case hd_Contradiction => k_is)
    (case na_Contradiction_one => k_is)
    (case na_Contradiction_other => k_is)
    (case a_Contradiction___init__ => k_is)
    (case t_Contradiction___init__ => k_is)
    (case l_Contradiction___init__ => k_is)
    (case c_Contradiction___init__ => k_is)
    (case d_Contradiction___init__ => k_is)
    (case f_2_Contradiction___init__ => exact rfl)
    (case g_Contradiction___init__ => decide +kernel)
    (case e_Contradiction___init__ => k_is)
    (case q_Contradiction___init__ => k_is)
    (case m_Contradiction___init__ => k_is)
    (case u_Contradiction___init__ => ks_is)
    (case v_Contradiction___init__ => k_is)
    (case s_hHH => first | rfl | k_is)
    (case s_hIH => k_is)
    (case s_hII => first | rfl | k_is)
    (case s_hCC => first | rfl | k_is)
    (case s_nBI => k_is)
    (case fBI => k_is)
    (case s_nBT => k_is)
    (case fBT => k_is)
    (case s_nBL => k_is)
    (case fBL => k_is)
    (case fB0 => k_is)
#print axioms PySem.Challenge.cw_surehollows_k02_bounds_and_their_signs_holds

