import PyProof.Rows.All
import Wide.All
import OpenK.AllK
import Wide.FinOn
import HandS.ForMost
import HandS.Wide
import HandS.IsInst
import HandS.StrMore
import HandS.Flow
import HandS.Style
import HandS.RaiseMore
import HandS.More
import HandS.Evl
import HandS.Defaults
import HandS.Walk
import HandS.MakeKwOnly
import PySem.Challenge.RW_surehollows_k01_heights_and_names
set_option Elab.async false
set_option linter.all false
set_option maxRecDepth 100000
set_option maxHeartbeats 4000000
/-! steps over the readings of the hand layer -/
namespace Vc
open PySem L2
section
variable {X : Cx}
/-! ### own rules by values -/
theorem call_repr_bl : CallR X (.builtin "repr") (fun xs H Q => ∃ b, xs = [.bl b] ∧ Q (.str (if b then "True" else "False")) H) := by
  intro pins s σ H xs us Q I r h
  obtain ⟨b, rfl, q⟩ := h
  obtain ⟨u, rfl, r1⟩ := vals1 r
  cases (show u = Value.bool b from r1)
  exact PySem.P.repr_of_bool ⟨.str _, H, I.tok _, ⟨_, rfl⟩, q⟩
def rMulS : R2 := fun x y H Q => ∃ z n, x = .str z ∧ y = .int n ∧ -1000 ≤ n ∧ n ≤ 10000 ∧ z.length ≤ 1000 ∧ Q (.str (Txt.mul z n)) H
theorem op_mul_str : OpR X (binaryOp .Mult) rMulS := by
  intro pins s σ H x y a b Q I rx ry h
  obtain ⟨z, n, rfl, rfl, h1, h2, h3, q⟩ := h
  obtain ⟨t, rfl⟩ := (show ∃ t, a = Value.str z t from rx)
  obtain ⟨u, rfl⟩ := (show ∃ u, b = Value.int n u from ry)
  refine SB.mul ⟨?_, fun h4 _ => ?_, fun h4 _ => ?_⟩ fun t' k => ⟨.str _, H, I.tok _, ⟨_, rfl⟩, q⟩
  · simp only [Bool.or_eq_false_iff, decide_eq_false_iff_not]
    omega
  · have h5 : (100000 : Int) ≤ (2 ^ 63 - 1) / n := by
      apply Int.le_ediv_of_mul_le (by omega)
      omega
    omega
  · have h6 : z.length * n.toNat ≤ 1000 * 10000 := Nat.mul_le_mul h3 (by omega)
    unfold Builtin.Str.tooLong
    have e : sizeLine = 16777216 := by decide
    rw [e]
    simp only [gt_iff_lt, decide_eq_false_iff_not]
    omega
/-- + of ints, of texts, of lists -/
def rAddU : R2 := fun x y H Q => rI0 (fun i j => .int (i + j)) x y H Q ∨ (∃ i j, x = .str i ∧ y = .str j ∧ i.length + j.length ≤ sizeLine ∧ Q (.str (i ++ j)) H) ∨ rCat x y H Q
theorem op_addU : OpR X (binaryOp .Add) rAddU := OpR.or op_add (OpR.or op_add_str op_cat)
/-- * of ints, of texts, of lists by an int -/
def rMulU : R2 := fun x y H Q => rI CMul (fun i j => .int (i * j)) x y H Q ∨ rMulS x y H Q ∨ rRep x y H Q
theorem op_mulU : OpR X (binaryOp .Mult) rMulU := OpR.or op_mul (OpR.or op_mul_str op_rep)
end
/-- == of scalars, of data at any depth -/
def rEqU (K : PySem.W.Frag) : R2 := fun x y H Q => rEq x y H Q ∨ rEqD K x y H Q
def rNeU (K : PySem.W.Frag) : R2 := fun x y H Q => rNe x y H Q ∨ rNeD K x y H Q
section
variable {X : Cx} {k : Nat}
theorem op_eqU (K : PySem.W.Frag) (hr : Room k X.A) (hK : X.K = K := by rfl) : OpR X (compareOp .Eq) (rEqU K) := hK ▸ OpR.or op_eq (op_eqD hr.units)
theorem op_neU (K : PySem.W.Frag) (hr : Room k X.A) (hK : X.K = K := by rfl) : OpR X (compareOp .NotEq) (rNeU K) := hK ▸ OpR.or op_ne (op_neD hr.units)
def rSlU (K : PySem.W.Frag) : V → Option Int → Option Int → Hp → VK → Prop := fun x lo hi H Q => rSlS x lo hi H Q ∨ rSlL K x lo hi H Q
theorem sl_U (K : PySem.W.Frag) (hK : X.K = K := by rfl) : SlR X (rSlU K) := hK ▸ SlR.or sl_str sl_list
end
section
variable {X : Cx}
def rLenU (K : PySem.W.Frag) : List V → Hp → VK → Prop := fun xs H Q => (∃ p ys, xs = [.ref p] ∧ (SqL K H p ys ∨ SqT K H p ys) ∧ Q (.int ys.length) H) ∨ (∃ z, xs = [.str z] ∧ z.length ≤ sizeLine ∧ Q (.int z.length) H) ∨ (∃ a kvs, xs = [V.ref a] ∧ H a = some (.dK kvs) ∧ Q (.int kvs.length) H)
theorem ix_U (K : PySem.W.Frag) (hK : X.K = K := by rfl) : IxR X (rIx K) := hK ▸ ix_seq
theorem pi_listK (K : PySem.W.Frag) {tg l : Expr} {tl : TE} (h : PE X l tl) (hK : X.K = K := by rfl) : PI X tg l (iList K tl) := hK ▸ pi_list h
theorem pg_K (K : PySem.W.Frag) {e : Expr} {n : Nat} {t : TGs} (h : PG X e (gTup X.K n t)) (hK : X.K = K := by rfl) : PG X e (gTup K n t) := hK ▸ h
theorem pe_bm0K (K : PySem.W.Frag) {T : String} {id : String} {name : Str} {o : Expr} {apos cpos : Pos} {r : V → List V → Hp → VK → Prop} {to : TE} (h : PE X (.Call (.Attribute o name apos) [] [] cpos) (tBM0 X.K T r to)) (hK : X.K = K := by rfl) : PE X (.Call (.Attribute o name apos) [] [] cpos) (tBM0 K T r to) := hK ▸ h
theorem pe_bmK (K : PySem.W.Frag) {T : String} {name : Str} {o : Expr} {es : List Expr} {apos cpos : Pos} {r : V → List V → Hp → VK → Prop} {to : TE} {t : TA} (h : PE X (.Call (.Attribute o name apos) es [] cpos) (tBM X.K T r to t)) (hK : X.K = K := by rfl) : PE X (.Call (.Attribute o name apos) es [] cpos) (tBM K T r to t) := hK ▸ h
def rJoin (K : PySem.W.Frag) : V → List V → Hp → VK → Prop := fun x xs H Q => ∃ a p, ∃ ys : List Str, x = .str a ∧ xs = [.ref p] ∧ (SqL K H p (ys.map V.str) ∨ SqT K H p (ys.map V.str)) ∧ (ys.map (·.length)).sum + ys.length * a.length ≤ 16777216 ∧ Q (.str (Txt.join a ys)) H
theorem mt_joinK (K : PySem.W.Frag) (hK : X.K = K := by rfl) : MtR X "str.join" (rJoin K) := hK ▸ mt_join
theorem call_lenU (K : PySem.W.Frag) (hK : X.K = K := by rfl) : CallR X (.builtin "len") (rLenU K) := hK ▸ CallR.or call_len_seq (CallR.or call_len_str call_lenD)
def rMaxU (K : PySem.W.Frag) : List V → Hp → VK → Prop := fun xs H Q => (∃ i j, xs = [.int i, .int j] ∧ Q (.int (if j > i then j else i)) H) ∨ rMax K xs H Q
theorem call_maxU (K : PySem.W.Frag) (hc : X.calm = true) (hK : X.K = K := by rfl) : CallR X (.builtin "max") (rMaxU K) := hK ▸ CallR.or (call_max2 hc) (cr_max hc)
def rMinU (K : PySem.W.Frag) : List V → Hp → VK → Prop := fun xs H Q => (∃ i j, xs = [.int i, .int j] ∧ Q (.int (if j < i then j else i)) H) ∨ rMin K xs H Q
theorem call_minU (K : PySem.W.Frag) (hc : X.calm = true) (hK : X.K = K := by rfl) : CallR X (.builtin "min") (rMinU K) := hK ▸ CallR.or (call_min2 hc) (cr_min hc)
def rReprU : List V → Hp → VK → Prop := fun xs H Q => (∃ b, xs = [.bl b] ∧ Q (.str (if b then "True" else "False")) H) ∨ (∃ i, xs = [.int i] ∧ i.natAbs.log2 < 1920 ∧ Q (.str (toString i)) H)
theorem call_reprU : CallR X (.builtin "repr") rReprU := CallR.or call_repr_bl SkE.call_repr_int
def rIsiU (K : PySem.W.Frag) : List V → Hp → VK → Prop := fun xs H Q => rIsi K xs H Q ∨ rIsiT K xs H Q
theorem call_isiU (K : PySem.W.Frag) (hK : X.K = K := by rfl) : CallR X (.builtin "isinstance") (rIsiU K) := hK ▸ CallR.or call_isi call_isiT
def rIntU : List V → Hp → VK → Prop := fun xs H Q => ((∃ i, xs = [.int i] ∧ Q (.int i) H) ∨ ∃ k, xs = [.bl k] ∧ Q (.int (if k then 1 else 0)) H) ∨ (∃ a n, xs = [.str a] ∧ PySem.intText? a = some n ∧ a.length ≤ 640 ∧ Q (.int n) H)
theorem call_intU : CallR X (.type "int") rIntU := CallR.or call_int1 call_int_str
def rStrU : List V → Hp → VK → Prop := fun xs H Q => (∃ i, xs = [.int i] ∧ i.natAbs.log2 < 1920 ∧ Q (.str (toString i)) H) ∨ (∃ a, xs = [.str a] ∧ Q (.str a) H)
theorem call_strU : CallR X (.type "str") rStrU := CallR.or call_str_int SkE.call_str_str
def rLtU : R2 := fun x y H Q => rI0 (fun i j => .bl (decide (i < j))) x y H Q ∨ (∃ i j, x = .str i ∧ y = .str j ∧ Q (.bl (decide (i.cps.toList < j.cps.toList))) H)
theorem op_ltU : OpR X (compareOp .Lt) rLtU := OpR.or op_lt op_lt_str
def rLeU : R2 := rI0 (fun i j => .bl (decide (i ≤ j)))
theorem op_leU : OpR X (compareOp .LtE) rLeU := op_le
def rGtU : R2 := rI0 (fun i j => .bl (decide (j < i)))
theorem op_gtU : OpR X (compareOp .Gt) rGtU := op_gt
def rGeU : R2 := rI0 (fun i j => .bl (decide (j ≤ i)))
theorem op_geU : OpR X (compareOp .GtE) rGeU := op_ge
def rInS1 : R2 := fun x y H Q => ∃ c z, x = .str ⟨#[c]⟩ ∧ y = .str z ∧ Q (.bl (decide (c ∈ z.cps.toList))) H
def rNotInS1 : R2 := fun x y H Q => ∃ c z, x = .str ⟨#[c]⟩ ∧ y = .str z ∧ Q (.bl (!decide (c ∈ z.cps.toList))) H
theorem op_inS1 : OpR X (compareOp .In) rInS1 := op_in_sign
theorem op_notInS1 : OpR X (compareOp .NotIn) rNotInS1 := op_notIn_sign
def rInU (K : PySem.W.Frag) : R2 := fun x y H Q => rInS1 x y H Q ∨ rIn K false x y H Q
def rNotInU (K : PySem.W.Frag) : R2 := fun x y H Q => rNotInS1 x y H Q ∨ rIn K true x y H Q
theorem op_inU (K : PySem.W.Frag) (hK : X.K = K := by rfl) : OpR X (compareOp .In) (rInU K) := hK ▸ OpR.or op_inS1 op_in_seq
theorem op_notInU (K : PySem.W.Frag) (hK : X.K = K := by rfl) : OpR X (compareOp .NotIn) (rNotInU K) := hK ▸ OpR.or op_notInS1 op_notIn_seq
end
/-! ### a def of the text, as others call it -/
section
variable {P : Program} {w : World} {K : PySem.W.Frag} {mg : Str → Option Value} {base : Heap}
def FnG (P : Program) (w : World) (K : PySem.W.Frag) (mg : Str → Option Value) (base : Heap) (CX : CXT) (k : Nat) (x : Str) (ps : List Str) (sp : Sp) : Prop :=
  ∃ (f : Addr) (fd : FuncData), FnOk P w K mg base CX k f fd ps sp ∧ mg x = some (.ref f) ∧ PySem.W.keepIn K (.ref f) = true ∧ Binds K fd ps []
variable {X : Cx} {CX : CXT} {j k : Nat} {ps : List Str} {sp : Sp} {E : XK} {x : Str} {p pos : Pos} {e : Expr} {es : List Expr} {t : TA}
theorem pe_callG (F : FnG X.prog X.w X.K X.mg X.base CX k x ps sp) (hr : Room j X.A) (hk : k ≤ j) (hg : Gl X x) (hx : Passes CX X E)
    (ha : PA X (e :: es) t) (hdb : (x == ("__debug__" : Str)) = false := by decide) (he : starEach (e :: es) X.env = (false, eval e X.env) :: starEach es X.env := by rfl) (hpl : (backTo pos (starEach es X.env)).any (·.1) = false := by rfl) :
    PE X (.Call (.Name x p) (e :: es) [] pos) (tCall sp [] E t) := by
  obtain ⟨f, fd, F1, m, kp, b⟩ := F
  exact pe_call F1 (hr.mono hk) hg m kp b .nil hx ha hdb he hpl
theorem pe_callG0 (F : FnG X.prog X.w X.K X.mg X.base CX k x ps sp) (hr : Room j X.A) (hk : k ≤ j) (hg : Gl X x) (hx : Passes CX X E)
    (hdb : (x == ("__debug__" : Str)) = false := by decide) : PE X (.Call (.Name x p) [] [] pos) (tCall sp [] E tNil) := by
  obtain ⟨f, fd, F1, m, kp, b⟩ := F
  exact pe_call0 F1 (hr.mono hk) hg m kp b .nil hx hdb
/-- f(k = v, ..) -/
def FnGK (P : Program) (w : World) (K : PySem.W.Frag) (mg : Str → Option Value) (base : Heap) (CX : CXT) (k : Nat) (x : Str) (ps : List Str) (n : Nat) (ks : List Str) (g : List Value → List Value → List Value) (gV : List V → List V → List V) (sp : Sp) : Prop :=
  ∃ (f : Addr) (fd : FuncData), FnOk P w K mg base CX k f fd ps sp ∧ mg x = some (.ref f) ∧ PySem.W.keepIn K (.ref f) = true ∧ KBn K fd ps n ks g gV
def tCallKn (n m : Nat) (sp : Sp) (gV : List V → List V → List V) (E : XK) (t tk : TA) : TE := fun σ H Q => t σ H fun vs H1 => tk σ H1 fun zs H2 => vs.length = n ∧ zs.length = m ∧ sp (gV vs zs) H2 Q E
variable {ks : List Str} {g : List Value → List Value → List Value} {gV : List V → List V → List V} {kws : List Keyword} {tk : TA}
theorem pe_callGK0 (F : FnGK X.prog X.w X.K X.mg X.base CX k x ps 0 ks g gV sp) (hr : Room j X.A) (hk : k ≤ j) (hg : Gl X x) (hx : Passes CX X E) (hkw : PK X kws tk)
    (hall : (backToKw pos (keywordEach kws X.env)).all (·.1.isSome) = true := by rfl) (hks : (backToKw pos (keywordEach kws X.env)).filterMap (·.1) = ks := by rfl) (hdb : (x == ("__debug__" : Str)) = false := by decide)
    (hpl : ((backTo pos (starEach [] X.env)).any (·.1) || (backToKw pos (keywordEach kws X.env)).any (·.1.isNone)) = false := by rfl) :
    PE X (.Call (.Name x p) [] kws pos) (tCallKn 0 ks.length sp gV E tNil tk) := by
  obtain ⟨f, fd, F1, m, kp, b⟩ := F
  refine ⟨fun pins s σ H Q I h => ?_⟩
  refine wpAny_Call_Name_kw (ld_glob I hg m ?_ hdb)
  refine PySem.W.callWith_KW0 (h₀ := X.base) I.ok.mod.kin kp hall ?_ hpl
  refine thn (hkw.run pos pins s σ H _ I h) fun ws s2 ⟨zs, H2, I2, rz, l1, l2, q2⟩ => ⟨I2.kIn, ?_⟩
  rw [hks]
  have r2 := b.rel (vs := []) (us := []) .nil rz
  have e2 : ws.length = ks.length := by rw [← rz.length]; exact l2
  refine wpAny_call (codeAny_mono (F1.run X.A X.stack s2 H2 ⟨[], ks.zip ws⟩ (g [] ws) (gV [] zs) Q E (hr.mono hk) I2.env0 (b.to s2 [] ws I2.kIn rfl e2) r2 q2) fun r s' hq => ?_)
  cases r with
  | error e => exact hx pins σ H2 s2 e s' I2 hq
  | ok fl =>
    cases fl with
    | ret u => exact I2.after hq
    | next => exact False.elim hq
    | brk => exact False.elim hq
    | cont => exact False.elim hq
end
theorem szE : sizeLine = 16777216 := by decide
/-! ### steps -/
section
variable {K : PySem.W.Frag} {σ σ' : St} {H H' : Hp} {ta tb te tx : TE} {t u : TT} {x y z v : V} {D : Ends} {s1 s2 : TS} {Q : VK} {QB : Bool → Hp → Prop} {r r' : R2}
theorem v_start {t : TS} (e : σ = σ') (h : t D σ' H) : t D σ H := by rw [e]; exact h
theorem v_seq (h : s1 { D with nx := s2 D } σ H) : tSeq s1 s2 D σ H := h
theorem v_ret (h : te σ H D.rt) : tRet te D σ H := h
theorem v_retN (h : D.rt .non H) : tRetN D σ H := h
theorem v_drop (h : te σ H fun _ H1 => D.nx σ H1) : tDrop te D σ H := h
theorem v_next (h : D.nx σ H) : tNext D σ H := h
theorem v_asg {g : TG} (h : te σ H fun x H1 => g x σ H1 D.nx) : tAsg te g D σ H := h
theorem v_name {i : Nat} {Qs : St → Hp → Prop} (e : σ.set i (some v) = σ') (h : Qs σ' H) : gName i v σ H Qs := by
  subst e
  exact h
theorem v_ifS {tt : TT} (h : tt σ H fun b H1 => if b = true then s1 D σ H1 else s2 D σ H1) : tIfS tt s1 s2 D σ H := h
theorem v_var {i : Nat} (e : σ[i]? = some (some v)) (h : Q v H) : tVar i σ H Q := ⟨v, e, h⟩
theorem v_c (h : Q v H) : tC v σ H Q := h
theorem v_op (h : ta σ H fun x H1 => tb σ H1 fun y H2 => r x y H2 Q) : tOp r ta tb σ H Q := h
theorem v_un {r : V → Hp → VK → Prop} (h : ta σ H fun x H1 => r x H1 Q) : tUn r ta σ H Q := h
theorem v_chain (h : ta σ H fun x H1 => tb σ H1 fun y H2 => r x y H2 fun z H3 => ∃ k, z = .bl k ∧ (if k = true then tx σ H3 fun w' H4 => r' y w' H4 Q else Q (.bl false) H3)) : tChain r r' ta tb tx σ H Q := h
theorem v_test (h : te σ H fun x H' => ∃ k, x = .bl k ∧ QB k H') : tTest te σ H QB := h
theorem v_B (h : te σ H fun x H' => ∃ k, x = .bl k ∧ QB k H') : tB te σ H QB := h
theorem v_and (h : t σ H fun c H1 => if c = true then u σ H1 QB else QB false H1) : tAnd t u σ H QB := h
theorem v_or (h : t σ H fun c H1 => if c = true then QB true H1 else u σ H1 QB) : tOr t u σ H QB := h
theorem v_not (h : t σ H fun c H1 => QB (!c) H1) : tNot t σ H QB := h
theorem v_andV (h : ta σ H fun x H1 => ∃ c, x = .bl c ∧ if c = true then tb σ H1 Q else Q (.bl false) H1) : tAndV ta tb σ H Q := h
theorem v_orV (h : ta σ H fun x H1 => ∃ c, x = .bl c ∧ if c = true then Q (.bl true) H1 else tb σ H1 Q) : tOrV ta tb σ H Q := h
theorem v_notV (h : ta σ H fun x H1 => ∃ c, x = .bl c ∧ Q (.bl (!c)) H1) : tNotV ta σ H Q := h
theorem v_if (h : t σ H fun c H1 => if c = true then ta σ H1 Q else tb σ H1 Q) : tIf t ta tb σ H Q := h
theorem v_bl {b : Bool} (h : QB b H) : ∃ k, V.bl b = .bl k ∧ QB k H := ⟨b, rfl, h⟩
theorem v_blP {b : Bool} {P : Bool → Prop} (h : P b) : ∃ k, V.bl b = .bl k ∧ P k := ⟨b, rfl, h⟩
theorem v_cb {r : List V → Hp → VK → Prop} {t : TA} (h : t σ H fun vs H1 => r vs H1 Q) : tCB r t σ H Q := h
theorem v_call {sp : Sp} {dvs : List V} {E : XK} {t : TA} (h : t σ H fun vs H1 => sp (vs ++ dvs) H1 Q E) : tCall sp dvs E t σ H Q := h
theorem v_nil {QA : List V → Hp → Prop} (h : QA [] H) : tNil σ H QA := h
theorem v_cons {tr : TA} {QA : List V → Hp → Prop} (h : ta σ H fun x H1 => tr σ H1 fun xs H2 => QA (x :: xs) H2) : tCons ta tr σ H QA := h
theorem v_lst {t : TA} (h : t σ H fun xs H1 => xs.length ≤ sizeLine ∧ ∀ p, H1 p = none → Q (.ref p) (upd H1 p (.lst xs))) : tLst t σ H Q := h
theorem v_tup {t : TA} (h : t σ H fun xs H1 => xs.length ≤ sizeLine ∧ ∀ p, H1 p = none → Q (.ref p) (upd H1 p (.tup xs))) : tTup t σ H Q := h
theorem v_bm0 {T : String} {r : V → List V → Hp → VK → Prop} (h : te σ H fun x H1 => tyV K T x H1 ∧ r x [] H1 Q) : tBM0 K T r te σ H Q := h
theorem v_bm {T : String} {r : V → List V → Hp → VK → Prop} {t : TA} (h : te σ H fun x H1 => tyV K T x H1 ∧ t σ H1 fun xs H2 => r x xs H2 Q) : tBM K T r te t σ H Q := h
theorem v_m0 {r : V → List V → Hp → VK → Prop} (h : te σ H fun x H1 => (∃ a, x = .str a) ∧ r x [] H1 Q) : tM0 r te σ H Q := h
theorem v_m1 {r : V → List V → Hp → VK → Prop} (h : ta σ H fun x H1 => (∃ a, x = .str a) ∧ te σ H1 fun y H2 => r x [y] H2 Q) : tM1 r ta te σ H Q := h
theorem v_strAnd {z : Str} {P : Prop} (h : P) : (∃ a, V.str z = .str a) ∧ P := ⟨⟨z, rfl⟩, h⟩
theorem v_sm0 {z : Str} {P : Str → Prop} (h : P z) : ∃ a, V.str z = .str a ∧ ([] : List V) = [] ∧ True ∧ P a := ⟨z, rfl, rfl, trivial, h⟩
theorem v_sl {r : V → Option Int → Option Int → Hp → VK → Prop} {tl th : TO} (h : te σ H fun x H1 => tl σ H1 fun l H2 => th σ H2 fun w H3 => r x l w H3 Q) : tSl r te tl th σ H Q := h
theorem v_noPart {QO : Option Int → Hp → Prop} (h : QO none H) : tNoPart σ H QO := h
theorem v_part {QO : Option Int → Hp → Prop} (h : te σ H fun x H1 => ∃ i, x = .int i ∧ QO (some i) H1) : tPart te σ H QO := h
theorem v_int {i : Int} {P : Int → Prop} (h : P i) : ∃ k, V.int i = .int k ∧ P k := ⟨i, rfl, h⟩
theorem v_I0 {g : Int → Int → V} {i j : Int} (h : Q (g i j) H) : rI0 g (.int i) (.int j) H Q := ⟨i, j, rfl, rfl, h⟩
theorem v_I {C : Int → Int → Prop} {g : Int → Int → V} {i j : Int} (c : C i j) (h : Q (g i j) H) : rI C g (.int i) (.int j) H Q := ⟨i, j, rfl, rfl, c, h⟩
theorem v_div {i j : Int} (c0 : 0 < j) (c1 : j ≤ 1000000000000) (h : Q (.int (i / j)) H) : rI CDivW (fun i j => .int (i / j)) (.int i) (.int j) H Q := ⟨i, j, rfl, rfl, wide_div (b := 50) c0 (by omega) (by decide) (by decide), h⟩
theorem v_mod {i j : Int} (c0 : 0 < j) (h : Q (.int (i % j)) H) : rI (fun _ j => 0 < j) (fun i j => .int (i % j)) (.int i) (.int j) H Q := ⟨i, j, rfl, rfl, c0, h⟩
theorem v_pow {i j : Int} (c0 : 0 ≤ j) (c1 : j ≤ 1000000) (c2 : i.natAbs < 2 ^ 64) (h : Q (.int (i ^ j.toNat)) H) : rI CPow (fun i j => .int (i ^ j.toNat)) (.int i) (.int j) H Q := ⟨i, j, rfl, rfl, ⟨c0, c1, c2⟩, h⟩
theorem v_powc {i j z : Int} (c0 : 0 ≤ j) (c1 : j ≤ 1000000) (c2 : i.natAbs < 2 ^ 64) (e : i ^ j.toNat = z) (h : Q (.int z) H) : rI CPow (fun i j => .int (i ^ j.toNat)) (.int i) (.int j) H Q := ⟨i, j, rfl, rfl, ⟨c0, c1, c2⟩, by show Q (.int (i ^ j.toNat)) H; rw [e]; exact h⟩
theorem v_U {g : Int → V} {i : Int} (h : Q (g i) H) : rU g (.int i) H Q := ⟨i, rfl, h⟩
theorem v_addI {i j : Int} (h : Q (.int (i + j)) H) : rAddU (.int i) (.int j) H Q := .inl ⟨i, j, rfl, rfl, h⟩
theorem v_addS {i j : Str} (c : i.length + j.length ≤ sizeLine) (h : Q (.str (i ++ j)) H) : rAddU (.str i) (.str j) H Q := .inr (.inl ⟨i, j, rfl, rfl, c, h⟩)
theorem v_addL {l b : Addr} {xs zs : List V} (h1 : H l = some (.lst xs)) (h2 : H b = some (.lst zs)) (c : xs.length + zs.length ≤ sizeLine) (h : ∀ p, H p = none → Q (.ref p) (upd H p (.lst (xs ++ zs)))) : rAddU (.ref l) (.ref b) H Q := .inr (.inr ⟨l, b, xs, zs, rfl, rfl, h1, h2, c, h⟩)
theorem v_mulI {i j : Int} (c : CMul i j) (h : Q (.int (i * j)) H) : rMulU (.int i) (.int j) H Q := .inl ⟨i, j, rfl, rfl, c, h⟩
theorem v_mulS {z : Str} {n : Int} (c1 : -1000 ≤ n) (c2 : n ≤ 10000) (c3 : z.length ≤ 1000) (h : Q (.str (Txt.mul z n)) H) : rMulU (.str z) (.int n) H Q := .inr (.inl ⟨z, n, rfl, rfl, c1, c2, c3, h⟩)
theorem v_eq (s : scal x y = true) (h : Q (.bl (decide (x = y))) H) : rEq x y H Q := ⟨s, h⟩
theorem v_ne (s : scal x y = true) (h : Q (.bl (!decide (x = y))) H) : rNe x y H Q := ⟨s, h⟩
theorem v_ixL {p : Addr} {xs : List V} {i : Int} (h1 : SqL K H p xs) (h2 : atI xs i = some v) (h : Q v H) : rIx K (.ref p) (.int i) H Q := .inl ⟨p, xs, i, v, rfl, rfl, h1, h2, h⟩
theorem v_ixT {p : Addr} {xs : List V} {i : Int} (h1 : SqT K H p xs) (h2 : atI xs i = some v) (h : Q v H) : rIx K (.ref p) (.int i) H Q := .inr (.inl ⟨p, xs, i, v, rfl, rfl, h1, h2, h⟩)
theorem v_ixS {w : Str} {i : Int} {c : Nat} (h1 : w.length ≤ sizeLine) (h2 : atI w.cps.toList i = some c) (h : Q (.str ⟨#[c]⟩) H) : rIx K (.str w) (.int i) H Q := .inr (.inr ⟨w, i, c, rfl, rfl, h1, h2, h⟩)
theorem v_eqU (s : scal x y = true) (h : Q (.bl (decide (x = y))) H) : rEqU K x y H Q := .inl ⟨s, h⟩
theorem v_neU (s : scal x y = true) (h : Q (.bl (!decide (x = y))) H) : rNeU K x y H Q := .inl ⟨s, h⟩
theorem v_eqD {d e : PyData} (h1 : Dp K H x d) (h2 : Dp K H y e) (s1 : SeqAt.shaped d = true) (s2 : SeqAt.shaped e = true) (h : Q (.bl (PyData.eqv d e)) H) : rEqU K x y H Q := .inr ⟨d, e, h1, h2, s1, s2, h⟩
theorem v_neD {d e : PyData} (h1 : Dp K H x d) (h2 : Dp K H y e) (s1 : SeqAt.shaped d = true) (s2 : SeqAt.shaped e = true) (h : Q (.bl (!PyData.eqv d e)) H) : rNeU K x y H Q := .inr ⟨d, e, h1, h2, s1, s2, h⟩
theorem v_slS {w : Str} {lo hi : Option Int} (c : w.length ≤ sizeLine) (h : Q (.str (cutS w lo hi)) H) : rSlU K (.str w) lo hi H Q := .inl ⟨w, rfl, c, h⟩
theorem v_slL {p : Addr} {xs : List V} {lo hi : Option Int} (c : SqL K H p xs) (h : ∀ q, H q = none → Q (.ref q) (upd H q (.lst (cutV xs lo hi)))) : rSlU K (.ref p) lo hi H Q := .inr ⟨p, xs, rfl, c, h⟩
theorem v_leU {i j : Int} (h : Q (.bl (decide (i ≤ j))) H) : rLeU (.int i) (.int j) H Q := ⟨i, j, rfl, rfl, h⟩
theorem v_geU {i j : Int} (h : Q (.bl (decide (j ≤ i))) H) : rGeU (.int i) (.int j) H Q := ⟨i, j, rfl, rfl, h⟩
theorem v_gtU {i j : Int} (h : Q (.bl (decide (j < i))) H) : rGtU (.int i) (.int j) H Q := ⟨i, j, rfl, rfl, h⟩
theorem v_ltU {i j : Int} (h : Q (.bl (decide (i < j))) H) : rLtU (.int i) (.int j) H Q := .inl ⟨i, j, rfl, rfl, h⟩
theorem v_ltS {i j : Str} (h : Q (.bl (decide (i.cps.toList < j.cps.toList))) H) : rLtU (.str i) (.str j) H Q := .inr ⟨i, j, rfl, rfl, h⟩
theorem v_lenS {w : Str} (c : w.length ≤ sizeLine) (h : Q (.int w.length) H) : rLenU K [.str w] H Q := .inr (.inl ⟨w, rfl, c, h⟩)
theorem v_lenL {p : Addr} {xs : List V} (c : SqL K H p xs) (h : Q (.int xs.length) H) : rLenU K [.ref p] H Q := .inl ⟨p, xs, rfl, .inl c, h⟩
theorem v_lenT {p : Addr} {xs : List V} (c : SqT K H p xs) (h : Q (.int xs.length) H) : rLenU K [.ref p] H Q := .inl ⟨p, xs, rfl, .inr c, h⟩
theorem v_lenD {p : Addr} {kvs : List (Key × V)} (c : H p = some (.dK kvs)) (h : Q (.int kvs.length) H) : rLenU K [.ref p] H Q := .inr (.inr ⟨p, kvs, rfl, c, h⟩)
theorem v_max2 {i j : Int} (h : Q (.int (if j > i then j else i)) H) : rMaxU K [.int i, .int j] H Q := .inl ⟨i, j, rfl, h⟩
theorem v_min2 {i j : Int} (h : Q (.int (if j < i then j else i)) H) : rMinU K [.int i, .int j] H Q := .inl ⟨i, j, rfl, h⟩
theorem v_reprB {b : Bool} (h : Q (.str (if b then "True" else "False")) H) : rReprU [.bl b] H Q := .inl ⟨b, rfl, h⟩
theorem v_reprI {i : Int} (c : i.natAbs.log2 < 1920) (h : Q (.str (toString i)) H) : rReprU [.int i] H Q := .inr ⟨i, rfl, c, h⟩
theorem v_intI {i : Int} (h : Q (.int i) H) : rIntU [.int i] H Q := .inl (.inl ⟨i, rfl, h⟩)
theorem v_intB {b : Bool} (h : Q (.int (if b then 1 else 0)) H) : rIntU [.bl b] H Q := .inl (.inr ⟨b, rfl, h⟩)
theorem v_strI {i : Int} (c : i.natAbs.log2 < 1920) (h : Q (.str (toString i)) H) : rStrU [.int i] H Q := .inl ⟨i, rfl, c, h⟩
theorem v_strS {w : Str} (h : Q (.str w) H) : rStrU [.str w] H Q := .inr ⟨w, rfl, h⟩
theorem v_isi {c : V} {t u : Value} {b : Bool} (h1 : ClsV c u) (h2 : TyX K H x t) (h3 : PySem.W.kitOne K t u = some b) (h : Q (.bl b) H) : rIsiU K [x, c] H Q := .inl ⟨x, c, t, u, b, rfl, h1, h2, h3, h⟩
theorem v_inS {c : Nat} {w : Str} (h : Q (.bl (decide (c ∈ w.cps.toList))) H) : rInU K (.str ⟨#[c]⟩) (.str w) H Q := .inl ⟨c, w, rfl, rfl, h⟩
theorem v_notInS {c : Nat} {w : Str} (h : Q (.bl (!decide (c ∈ w.cps.toList))) H) : rNotInU K (.str ⟨#[c]⟩) (.str w) H Q := .inl ⟨c, w, rfl, rfl, h⟩
theorem v_inL {p : Addr} {xs : List V} (c : SqL K H p xs) (f1 : flatV x = true) (f2 : xs.all flatV = true) (h : Q (.bl (inV x xs)) H) : rInU K x (.ref p) H Q := .inr ⟨p, xs, rfl, .inl c, f1, f2, h⟩
theorem v_notInL {p : Addr} {xs : List V} (c : SqL K H p xs) (f1 : flatV x = true) (f2 : xs.all flatV = true) (h : Q (.bl (!inV x xs)) H) : rNotInU K x (.ref p) H Q := .inr ⟨p, xs, rfl, .inl c, f1, f2, h⟩
theorem v_inT {p : Addr} {xs : List V} (c : SqT K H p xs) (f1 : flatV x = true) (f2 : xs.all flatV = true) (h : Q (.bl (inV x xs)) H) : rInU K x (.ref p) H Q := .inr ⟨p, xs, rfl, .inr c, f1, f2, h⟩
theorem v_par {i j : Nat} {ta : TA} (h : ta σ H fun vs H1 => ∃ v w, vs = [v, w] ∧ D.nx ((σ.set i (some v)).set j (some w)) H1) : tPar i j ta D σ H := h
theorem v_two {v w : V} {P : V → V → Prop} (h : P v w) : ∃ a b, [v, w] = [a, b] ∧ P a b := ⟨v, w, rfl, h⟩
theorem v_twoS {i j : Nat} {v w : V} {Qs : St → Hp → Prop} (e : (σ.set i (some v)).set j (some w) = σ') (h : Qs σ' H) : ∃ a b, [v, w] = [a, b] ∧ Qs ((σ.set i (some a)).set j (some b)) H := ⟨v, w, rfl, by rw [e]; exact h⟩
theorem v_sets {Qs : St → Hp → Prop} (e : σ = σ') (h : Qs σ' H) : Qs σ H := by rw [e]; exact h
theorem v_callKn {n m : Nat} {sp : Sp} {gV : List V → List V → List V} {E : XK} {t tk : TA} (h : t σ H fun vs H1 => tk σ H1 fun zs H2 => vs.length = n ∧ zs.length = m ∧ sp (gV vs zs) H2 Q E) : tCallKn n m sp gV E t tk σ H Q := h
theorem v_gSub {ti : TE} {rs : TSet} {Qs : St → Hp → Prop} (h : ta σ H fun o H1 => ti σ H1 fun i H2 => rs o i v H2 fun H3 => Qs σ H3) : gSub ta ti rs v σ H Qs := h
theorem v_setL {p : Addr} {xs : List V} {k : Int} {j : Nat} {Qs : Hp → Prop} (h1 : H p = some (.lst xs)) (h2 : ixN xs.length k = some j) (h : Qs (upd H p (.lst (xs.set j v)))) : rSetL (.ref p) (.int k) v H Qs := ⟨p, xs, k, j, rfl, rfl, h1, h2, h⟩
theorem v_disp {trs : List (TE × TE)} (h : ∀ p, H p = none → tPairs trs σ (upd H p (.dK [])) fun ps H2 => H2 p = some (.dK []) ∧ ∃ kvs : List (Key × V), ps = kvs.map (fun kv => (kV kv.1, kv.2)) ∧ kvs.length ≤ 15 ∧ Q (.ref p) (upd H2 p (.dK (mergeK [] kvs)))) : tDisp trs σ H Q := h
theorem v_pnil {QP : List (V × V) → Hp → Prop} (h : QP [] H) : tPairs [] σ H QP := h
theorem v_pcons {r : List (TE × TE)} {QP : List (V × V) → Hp → Prop} (h : ta σ H fun x H1 => tb σ H1 fun y H2 => tPairs r σ H2 fun ps H3 => QP ((x, y) :: ps) H3) : tPairs ((ta, tb) :: r) σ H QP := h
/-! tests -/
theorem v_iteB {b : Bool} {A B : Prop} (h1 : b = true → A) (h2 : b = false → B) : if b = true then A else B := by
  cases b with
  | true => exact h1 rfl
  | false => exact h2 rfl
theorem v_iteD {c A B : Prop} [Decidable c] (h1 : c → A) (h2 : ¬ c → B) : if decide c = true then A else B := v_iteB (fun h => h1 (of_decide_eq_true h)) (fun h => h2 (of_decide_eq_false h))
theorem v_iteN {c A B : Prop} [Decidable c] (h1 : ¬ c → A) (h2 : c → B) : if (!decide c) = true then A else B := v_iteB (fun h => h1 (fun hc => by rw [decide_eq_true hc] at h; exact Bool.noConfusion h)) (fun h => h2 (Classical.byContradiction fun hc => by rw [decide_eq_false hc] at h; exact Bool.noConfusion h))
theorem v_iteDT {c A B : Prop} [Decidable c] (hc : c) (h : A) : if decide c = true then A else B := v_iteD (fun _ => h) (fun n => absurd hc n)
theorem v_iteDF {c A B : Prop} [Decidable c] (hc : ¬ c) (h : B) : if decide c = true then A else B := v_iteD (fun n => absurd n hc) (fun _ => h)
theorem v_iteNT {c A B : Prop} [Decidable c] (hc : ¬ c) (h : A) : if (!decide c) = true then A else B := v_iteN (fun _ => h) (fun n => absurd n hc)
theorem v_iteNF {c A B : Prop} [Decidable c] (hc : c) (h : B) : if (!decide c) = true then A else B := v_iteN (fun n => absurd hc n) (fun _ => h)
theorem v_iteT {A B : Prop} (h : A) : if true = true then A else B := by rw [if_pos rfl]; exact h
theorem v_iteF {A B : Prop} (h : B) : if false = true then A else B := by rw [if_neg Bool.false_ne_true]; exact h
theorem v_iteFt {A B : Prop} (h : A) : if (!false) = true then A else B := by rw [if_pos (show (!false) = true from rfl)]; exact h
theorem v_iteTf {A B : Prop} (h : B) : if (!true) = true then A else B := by rw [if_neg (show ¬ (!true) = true from by decide)]; exact h
theorem v_iteBT {b : Bool} {A B : Prop} (e : b = true) (h : A) : if b = true then A else B := by rw [if_pos e]; exact h
theorem v_iteBF {b : Bool} {A B : Prop} (e : b = false) (h : B) : if b = true then A else B := by rw [e]; exact v_iteF h
theorem v_iteE {b c : Bool} {A B : Prop} (e : b = c) (h : if c = true then A else B) : if b = true then A else B := by rw [e]; exact h
/-! loops -/
/-- what a for asks of what it walks -/
def ForW (g : TG) (tb : TS) (D : Ends) (σ : St) (J : It) (H1 : Hp) : Prop := ∃ W : Nat → Nat → St → Hp → Prop, (∃ m, W 0 m σ H1) ∧ ∀ i m σ H, W i m σ H →
  (J.stop i H ∧ D.nx σ H) ∨ (J.go i H ∧ ∃ N : St → Hp → Prop, (∀ σ' H', N σ' H' → ∃ m', m' < m ∧ W (i + 1) m' σ' H') ∧ ∀ x H', J.yld i H x H' → g x σ H' fun σ2 H2 => tb { D with nx := N, ct := N, bk := D.nx } σ2 H2)
theorem v_for {wi : TI} {g : TG} (h : wi σ H fun J H1 => ForW g s1 D σ J H1) : tFor wi g s1 D σ H := h
def LcW (g : TG) (tt : TT) (te : TE) (vs : List Nat) (σ : St) (Q : VK) (J : It) (H1 : Hp) : Prop := ∀ D, H1 D = none → ∃ W : Nat → Nat → Hp → Prop, (∃ m, W 0 m (upd H1 D (.lst []))) ∧ ∀ i m H, W i m H →
  (J.stop i H ∧ Q (.ref D) H) ∨ (J.go i H ∧ ∃ Nx : Hp → Prop, (∀ H', Nx H' → ∃ m', m' < m ∧ W (i + 1) m' H') ∧ ∀ x H', J.yld i H x H' → g x (wipe σ vs) H' fun σ2 H2 => wipe σ2 vs = wipe σ vs ∧ tt σ2 H2 fun b H3 =>
    if b = true then te σ2 H3 fun y H4 => ∃ acc, H4 D = some (.lst acc) ∧ acc.length < sizeLine ∧ Nx (upd H4 D (.lst (acc ++ [y]))) else Nx H3)
theorem v_lc {wi : TI} {g : TG} {vs : List Nat} (h : wi σ H fun J H1 => LcW g t te vs σ Q J H1) : tLc wi g t te vs σ H Q := h
theorem v_iList {R : It → Hp → Prop} (h : te σ H fun x H1 => ∃ a, x = .ref a ∧ (∃ xs, SqL K H1 a xs) ∧ R (Itl K a) H1) : iList K te σ H R := h
theorem v_iRng1 {ta : TA} {R : It → Hp → Prop} (h : ta σ H fun vs H1 => ∃ j : Int, vs = [.int j] ∧ -(2 ^ 62) ≤ j ∧ j < 2 ^ 62 ∧ R (Itr 0 j.toNat) H1) : iRng1 ta σ H R := h
theorem v_iRng2 {ta : TA} {R : It → Hp → Prop} (h : ta σ H fun vs H1 => ∃ i j : Int, vs = [.int i, .int j] ∧ (-(2 ^ 62) ≤ i ∧ i < 2 ^ 62 ∧ -(2 ^ 62) ≤ j ∧ j < 2 ^ 62) ∧ R (Itr i (j - i).toNat) H1) : iRng2 ta σ H R := h
theorem v_iStr {R : It → Hp → Prop} (h : te σ H fun v H1 => ∃ x, v = .str x ∧ R (Its x) H1) : iStr te σ H R := h
theorem e_forL {a : Addr} {xs : List V} {g : TG} (hx : SqL K H a xs) (Pv : Nat → St → Hp → Prop) (h0 : Pv 0 σ H) (hl : ∀ i σ H, i ≤ xs.length → Pv i σ H → SqL K H a xs)
    (hs : ∀ i x σ H, xs[i]? = some x → Pv i σ H → g x σ H fun σ2 H2 => s1 { D with nx := Pv (i + 1), ct := Pv (i + 1), bk := D.nx } σ2 H2) (hd : ∀ σ H, Pv xs.length σ H → D.nx σ H) :
    ∃ a', V.ref a = .ref a' ∧ (∃ xs, SqL K H a' xs) ∧ ForW g s1 D σ (Itl K a') H := ⟨a, rfl, ⟨xs, hx⟩, for_list Pv h0 hl hs hd⟩
theorem e_forR1 {n : Int} {g : TG} (hn : 0 ≤ n ∧ n ≤ 1000000) (Pv : Nat → St → Hp → Prop) (h0 : Pv 0 σ H)
    (hs : ∀ (i : Nat) σ H, (i : Int) < n → Pv i σ H → g (.int (i : Int)) σ H fun σ2 H2 => s1 { D with nx := Pv (i + 1), ct := Pv (i + 1), bk := D.nx } σ2 H2) (hd : ∀ σ H, Pv n.toNat σ H → D.nx σ H) :
    ∃ j : Int, [V.int n] = [.int j] ∧ -(2 ^ 62) ≤ j ∧ j < 2 ^ 62 ∧ ForW g s1 D σ (Itr 0 j.toNat) H := ⟨n, rfl, by omega, by omega, for_range Pv h0 (fun i σ H hi p => by
      have := hs i σ H (by omega) p
      rw [Int.zero_add]
      exact this) hd⟩
theorem e_forR2 {lo n : Int} {g : TG} (hn : 0 ≤ lo ∧ lo ≤ 1000000 ∧ -1000000 ≤ n ∧ n ≤ 1000000) (Pv : Nat → St → Hp → Prop) (h0 : Pv 0 σ H)
    (hs : ∀ (i : Nat) σ H, lo + (i : Int) < n → Pv i σ H → g (.int (lo + (i : Int))) σ H fun σ2 H2 => s1 { D with nx := Pv (i + 1), ct := Pv (i + 1), bk := D.nx } σ2 H2) (hd : ∀ σ H, Pv (n - lo).toNat σ H → D.nx σ H) :
    ∃ i j : Int, [V.int lo, V.int n] = [.int i, .int j] ∧ (-(2 ^ 62) ≤ i ∧ i < 2 ^ 62 ∧ -(2 ^ 62) ≤ j ∧ j < 2 ^ 62) ∧ ForW g s1 D σ (Itr i (j - i).toNat) H := ⟨lo, n, rfl, by omega, for_range Pv h0 (fun i σ H hi p => hs i σ H (by omega) p) hd⟩
theorem e_lcL {a : Addr} {xs : List V} {g : TG} {vs : List Nat} (hx : SqL K H a xs) (hh : ∀ Dl, H Dl = none → ∃ Pv : Nat → Hp → Prop, Pv 0 (upd H Dl (.lst [])) ∧ (∀ i H, i ≤ xs.length → Pv i H → SqL K H a xs) ∧
      (∀ i x H, xs[i]? = some x → Pv i H → g x (wipe σ vs) H fun σ2 H2 => wipe σ2 vs = wipe σ vs ∧ t σ2 H2 fun b H3 =>
        if b = true then te σ2 H3 fun y H4 => ∃ acc, H4 Dl = some (.lst acc) ∧ acc.length < sizeLine ∧ Pv (i + 1) (upd H4 Dl (.lst (acc ++ [y]))) else Pv (i + 1) H3) ∧ ∀ H, Pv xs.length H → Q (.ref Dl) H) :
    ∃ a', V.ref a = .ref a' ∧ (∃ xs, SqL K H a' xs) ∧ LcW g t te vs σ Q (Itl K a') H := ⟨a, rfl, ⟨xs, hx⟩, fun Dl hD => by
      obtain ⟨Pv, h0, hl, hs, hd⟩ := hh Dl hD
      exact lc_list Pv h0 hl hs hd⟩
theorem e_lcR1 {n : Int} {g : TG} {vs : List Nat} (hn : 0 ≤ n ∧ n ≤ 1000000) (hh : ∀ Dl, H Dl = none → ∃ Pv : Nat → Hp → Prop, Pv 0 (upd H Dl (.lst [])) ∧
      (∀ (i : Nat) H, (i : Int) < n → Pv i H → g (.int (i : Int)) (wipe σ vs) H fun σ2 H2 => wipe σ2 vs = wipe σ vs ∧ t σ2 H2 fun b H3 =>
        if b = true then te σ2 H3 fun y H4 => ∃ acc, H4 Dl = some (.lst acc) ∧ acc.length < sizeLine ∧ Pv (i + 1) (upd H4 Dl (.lst (acc ++ [y]))) else Pv (i + 1) H3) ∧ ∀ H, Pv n.toNat H → Q (.ref Dl) H) :
    ∃ j : Int, [V.int n] = [.int j] ∧ -(2 ^ 62) ≤ j ∧ j < 2 ^ 62 ∧ LcW g t te vs σ Q (Itr 0 j.toNat) H := ⟨n, rfl, by omega, by omega, fun Dl hD => by
      obtain ⟨Pv, h0, hs, hd⟩ := hh Dl hD
      exact lc_range Pv h0 (fun i H hi p => by
        have := hs i H (by omega) p
        rw [Int.zero_add]
        exact this) hd⟩
theorem e_lcS {x : Str} {g : TG} {vs : List Nat} (hh : ∀ Dl, H Dl = none → ∃ Pv : Nat → Hp → Prop, Pv 0 (upd H Dl (.lst [])) ∧
      (∀ (i : Nat) (c : Nat) H, x.cps[i]? = some c → Pv i H → g (.str ⟨#[c]⟩) (wipe σ vs) H fun σ2 H2 => wipe σ2 vs = wipe σ vs ∧ t σ2 H2 fun b H3 =>
        if b = true then te σ2 H3 fun y H4 => ∃ acc, H4 Dl = some (.lst acc) ∧ acc.length < sizeLine ∧ Pv (i + 1) (upd H4 Dl (.lst (acc ++ [y]))) else Pv (i + 1) H3) ∧ ∀ H, Pv x.cps.size H → Q (.ref Dl) H) :
    ∃ x', V.str x = .str x' ∧ LcW g t te vs σ Q (Its x') H := ⟨x, rfl, fun Dl hD => by
      obtain ⟨Pv, h0, hs, hd⟩ := hh Dl hD
      have w : Walk (Its x) x.cps.size (fun _ => True) (fun i H v H' => H' = H ∧ ∃ c, x.cps[i]? = some c ∧ v = .str ⟨#[c]⟩) := ⟨fun _ _ hi _ => hi, fun _ _ => Nat.le_refl _, fun _ _ _ _ _ _ y => y⟩
      exact lc_it w Pv h0 (fun _ _ _ _ => True.intro) (fun i v H H' hi p y => by
        obtain ⟨rfl, c, hc, rfl⟩ := y
        exact hs i c _ hc p) hd⟩
theorem wipe1 {j : Nat} {n : Str} : wipe σ (List.map (·.2) [(n, j)]) = σ.set j none := rfl
theorem wipe1s {j : Nat} {n : Str} {x : V} : (wipe σ (List.map (·.2) [(n, j)])).set j (some x) = σ.set j (some x) := by rw [wipe1, List.set_set]
theorem wipe1w {j : Nat} {n : Str} {x : V} : wipe (σ.set j (some x)) (List.map (·.2) [(n, j)]) = wipe σ (List.map (·.2) [(n, j)]) := by rw [wipe1, wipe1, List.set_set]
/-- comprehensions whose target is a name -/
theorem e_lcS1 {x : Str} {j : Nat} {n : Str} (hh : ∀ Dl, H Dl = none → ∃ Pv : Nat → Hp → Prop, Pv 0 (upd H Dl (.lst [])) ∧
      (∀ (i : Nat) (c : Nat) H, x.cps[i]? = some c → Pv i H → t (σ.set j (some (.str ⟨#[c]⟩))) H fun b H3 =>
        if b = true then te (σ.set j (some (.str ⟨#[c]⟩))) H3 fun y H4 => ∃ acc, H4 Dl = some (.lst acc) ∧ acc.length < sizeLine ∧ Pv (i + 1) (upd H4 Dl (.lst (acc ++ [y]))) else Pv (i + 1) H3) ∧ ∀ H, Pv x.cps.size H → Q (.ref Dl) H) :
    ∃ x', V.str x = .str x' ∧ LcW (gName j) t te (List.map (·.2) [(n, j)]) σ Q (Its x') H := e_lcS fun Dl hD => by
      obtain ⟨Pv, h0, hs, hd⟩ := hh Dl hD
      refine ⟨Pv, h0, fun i c H' hi p => ?_, hd⟩
      show (wipe ((wipe σ (List.map (·.2) [(n, j)])).set j (some (.str ⟨#[c]⟩))) _ = wipe σ (List.map (·.2) [(n, j)])) ∧ _
      rw [wipe1s]
      exact ⟨wipe1w, hs i c H' hi p⟩
theorem e_lcR11 {n : Int} {j : Nat} {nm : Str} (hn : 0 ≤ n ∧ n ≤ 1000000) (hh : ∀ Dl, H Dl = none → ∃ Pv : Nat → Hp → Prop, Pv 0 (upd H Dl (.lst [])) ∧
      (∀ (i : Nat) H, (i : Int) < n → Pv i H → t (σ.set j (some (.int (i : Int)))) H fun b H3 =>
        if b = true then te (σ.set j (some (.int (i : Int)))) H3 fun y H4 => ∃ acc, H4 Dl = some (.lst acc) ∧ acc.length < sizeLine ∧ Pv (i + 1) (upd H4 Dl (.lst (acc ++ [y]))) else Pv (i + 1) H3) ∧ ∀ H, Pv n.toNat H → Q (.ref Dl) H) :
    ∃ k : Int, [V.int n] = [.int k] ∧ -(2 ^ 62) ≤ k ∧ k < 2 ^ 62 ∧ LcW (gName j) t te (List.map (·.2) [(nm, j)]) σ Q (Itr 0 k.toNat) H := e_lcR1 hn fun Dl hD => by
      obtain ⟨Pv, h0, hs, hd⟩ := hh Dl hD
      refine ⟨Pv, h0, fun i H' hi p => ?_, hd⟩
      show (wipe ((wipe σ (List.map (·.2) [(nm, j)])).set j (some (.int (i : Int)))) _ = wipe σ (List.map (·.2) [(nm, j)])) ∧ _
      rw [wipe1s]
      exact ⟨wipe1w, hs i H' hi p⟩
theorem e_lcL1 {a : Addr} {xs : List V} {j : Nat} {nm : Str} (hx : SqL K H a xs) (hh : ∀ Dl, H Dl = none → ∃ Pv : Nat → Hp → Prop, Pv 0 (upd H Dl (.lst [])) ∧ (∀ i H, i ≤ xs.length → Pv i H → SqL K H a xs) ∧
      (∀ i x H, xs[i]? = some x → Pv i H → t (σ.set j (some x)) H fun b H3 =>
        if b = true then te (σ.set j (some x)) H3 fun y H4 => ∃ acc, H4 Dl = some (.lst acc) ∧ acc.length < sizeLine ∧ Pv (i + 1) (upd H4 Dl (.lst (acc ++ [y]))) else Pv (i + 1) H3) ∧ ∀ H, Pv xs.length H → Q (.ref Dl) H) :
    ∃ a', V.ref a = .ref a' ∧ (∃ xs, SqL K H a' xs) ∧ LcW (gName j) t te (List.map (·.2) [(nm, j)]) σ Q (Itl K a') H := e_lcL hx fun Dl hD => by
      obtain ⟨Pv, h0, hl, hs, hd⟩ := hh Dl hD
      refine ⟨Pv, h0, hl, fun i x H' hi p => ?_, hd⟩
      show (wipe ((wipe σ (List.map (·.2) [(nm, j)])).set j (some x)) _ = wipe σ (List.map (·.2) [(nm, j)])) ∧ _
      rw [wipe1s]
      exact ⟨wipe1w, hs i x H' hi p⟩
theorem v_yes (h : QB true H) : tYes σ H QB := h
end
/-! heaps -/
section
variable {K : PySem.W.Frag} {σ σ' : St} {H H' : Hp} {ta tb te tx : TE} {t u : TT} {x y z v : V} {D : Ends} {s1 s2 : TS} {Q : VK} {QB : Bool → Hp → Prop} {r r' : R2}
theorem h_new {p q : Addr} {o o' : HO} (hp : H p = none) (h : H q = some o') : upd H p o q = some o' := by
  rw [upd_ne (ne_of_none h hp)]
  exact h
theorem h_mut {p q : Addr} {o o' : HO} (hp : q ≠ p) (h : H q = some o') : upd H p o q = some o' := by
  rw [upd_ne hp]
  exact h
theorem h_free {p q : Addr} {o : HO} (hp : q ≠ p) (h : H q = none) : upd H p o q = none := by
  rw [upd_ne hp]
  exact h
/-- all but b stays -/
def But (b : Addr) (H H' : Hp) : Prop := ∀ a o, a ≠ b → H a = some o → H' a = some o
theorem But.refl (b : Addr) (H : Hp) : But b H H := fun _ _ _ h => h
theorem But.trans {b : Addr} {H H1 H2 : Hp} (a : But b H H1) (c : But b H1 H2) : But b H H2 := fun x o n h => c x o n (a x o n h)
theorem But.new {b p : Addr} {o : HO} {H H1 : Hp} (a : But b H H1) (hp : H1 p = none) : But b H (upd H1 p o) := fun x o n h => h_new hp (a x o n h)
theorem But.at {b : Addr} {o : HO} {H H1 : Hp} (a : But b H H1) : But b H (upd H1 b o) := fun x o n h => h_mut n (a x o n h)
theorem But.mut {b p : Addr} {o : HO} {H H1 : Hp} (a : But b H H1) (hp : H p = none) : But b H (upd H1 p o) := fun x o n h => h_mut (ne_of_none h hp) (a x o n h)
theorem But.seq {b a : Addr} {xs : List V} {H H' : Hp} (e : But b H H') (n : a ≠ b) (h : SqL K H a xs) : SqL K H' a xs := by
  rcases h with (h | ⟨o, h⟩) | h
  · exact .inl (.inl (e _ _ n h))
  · exact .inl (.inr ⟨o, e _ _ n h⟩)
  · exact .inr h
end
/-! ### data -/
theorem canLay_strs : ∀ {xs : List Str}, (∀ x ∈ xs, PyData.strOk x = true) → PyData.canLayAll0 (xs.map PyData.str) = true
  | [], _ => rfl
  | x :: xs, h => by
    show (PyData.canLay0 (.str x) && PyData.canLayAll0 (xs.map PyData.str)) = true
    rw [Bool.and_eq_true]
    exact ⟨h x List.mem_cons_self, canLay_strs fun y hy => h y (List.mem_cons_of_mem _ hy)⟩
theorem depth_strs : ∀ {xs : List Str}, PyData.depthAll (xs.map PyData.str) = 0
  | [] => rfl
  | x :: xs => by
    show max (PyData.depth (.str x)) (PyData.depthAll (xs.map PyData.str)) = 0
    rw [depth_strs]
    rfl
theorem shaped_strs {xs : List Str} (h : ∀ x ∈ xs, PyData.strOk x = true) : SeqAt.shaped (.list (xs.map PyData.str)) = true := by
  unfold SeqAt.shaped
  rw [Bool.and_eq_true]
  refine ⟨canLay_strs h, decide_eq_true ?_⟩
  show PyData.depthAll (xs.map PyData.str) + 1 ≤ 64
  rw [depth_strs]
  decide
theorem dp_strs {K : PySem.W.Frag} {H : Hp} : ∀ {xs : List Str}, DpAll K H (xs.map V.str) (xs.map PyData.str)
  | [] => .nil
  | x :: xs => .cons (.str x) dp_strs
theorem eqv_nil (ds : List PyData) : PyData.eqv (.list ds) (.list []) = ds.isEmpty := by
  show PyData.eqvAll ds [] = ds.isEmpty
  cases ds <;> rfl
theorem take_succ {α : Type} {l : List α} {i : Nat} {c : α} (h : l[i]? = some c) : l.take (i + 1) = l.take i ++ [c] := by
  rw [List.take_add_one, h]
  rfl
theorem But.seqN {K : PySem.W.Frag} {b a : Addr} {xs : List V} {H H' : Hp} (e : But b H H') (n : H b = none) (h : SqL K H a xs) : SqL K H' a xs := by
  rcases h with (h | ⟨o, h⟩) | h
  · exact .inl (.inl (e _ _ (ne_of_none h n) h))
  · exact .inl (.inr ⟨o, e _ _ (ne_of_none h n) h⟩)
  · exact .inr h
theorem But.of {b : Addr} {H H' : Hp} (e : Same H H') : But b H H' := fun a o _ h => e a o h
theorem But.get {b a : Addr} {o : HO} {H H' : Hp} (e : But b H H') (n : a ≠ b) (h : H a = some o) : H' a = some o := e a o n h
theorem atI_of {α : Type} {xs : List α} {i : Int} (h0 : 0 ≤ i) (h1 : i < xs.length) : ∃ (h : i.toNat < xs.length), atI xs i = some xs[i.toNat] := by
  have h : i.toNat < xs.length := by omega
  refine ⟨h, ?_⟩
  unfold atI ixN
  rw [if_pos h0, if_pos h1]
  show xs[i.toNat]? = _
  rw [List.getElem?_eq_getElem h]
theorem atI_strs {L : List Str} {i : Int} {P : Str → Prop} (h0 : 0 ≤ i) (h1 : i < L.length) (hP : ∀ s ∈ L, P s) : ∃ s, atI (L.map V.str) i = some (.str s) ∧ P s := by
  obtain ⟨h, e⟩ := atI_of (xs := L.map V.str) h0 (by rw [List.length_map]; exact h1)
  rw [List.length_map] at h
  refine ⟨L[i.toNat], ?_, hP _ (List.getElem_mem h)⟩
  rw [e, List.getElem_map]
theorem tl_eq {x : Str} {l : List Nat} (h : x.cps.toList = l) : x = ⟨l.toArray⟩ := by
  subst h
  cases x
  simp
theorem len_tl (x : Str) : x.length = x.cps.toList.length := Array.length_toList.symm
open TL in
theorem joinL_ones : ∀ cs : List Nat, joinL [] (cs.map fun c => [c]) = cs
  | [] => rfl
  | [c] => rfl
  | c :: d :: r => by
    show [c] ++ ([] ++ joinL [] ((d :: r).map fun c => [c])) = c :: d :: r
    rw [joinL_ones (d :: r)]
    rfl
open TL in
theorem join_ones (cs : List Nat) : (Txt.join "" (cs.map fun c => (⟨#[c]⟩ : Str))).cps.toList = cs := by
  rw [join_eq]
  have h := tl_join "" (cs.map fun c => (⟨#[c]⟩ : Str))
  have e : List.map tl (cs.map fun c => (⟨#[c]⟩ : Str)) = cs.map fun c => [c] := by rw [List.map_map]; rfl
  rw [e] at h
  have e2 : tl ("" : Str) = [] := by decide +kernel
  rw [e2, joinL_ones] at h
  exact h
theorem tl_cut (z : Str) (lo hi : Option Int) : ∀ c ∈ (cutS z lo hi).cps.toList, c ∈ z.cps.toList := by
  intro c hc
  have h : c ∈ (z.cps.toList.drop (HT.sIx z.length 0 lo)).take (HT.sIx z.length z.length hi - HT.sIx z.length 0 lo) := by
    have e : (cutS z lo hi).cps.toList = (z.cps.toList.drop (HT.sIx z.length 0 lo)).take (HT.sIx z.length z.length hi - HT.sIx z.length 0 lo) := by
      unfold cutS
      simp
    rw [e] at hc
    exact hc
  exact List.mem_of_mem_drop (List.mem_of_mem_take h)
theorem tl_app (x y : Str) : (x ++ y).cps.toList = x.cps.toList ++ y.cps.toList := TL.tl_append x y
theorem len_app (x y : Str) : (x ++ y).length = x.length + y.length := by rw [len_tl, tl_app, List.length_append, ← len_tl, ← len_tl]
theorem log2_small {i : Int} (h : i.natAbs < 2 ^ 200) : i.natAbs.log2 < 1920 := Nat.lt_of_lt_of_le (PySem.Flt.log2_lt_of (by decide) h) (by decide)
theorem len_num {i : Int} (h : i.natAbs.log2 < 1920) : (Str.ofString (toString i)).length ≤ sizeLine := PySem.int_text_fits h
end Vc

set_option Elab.async false
set_option maxRecDepth 100000
set_option maxHeartbeats 4000000
namespace K01
open PySem L2
local macro_rules | `(tactic| walk_at "hp") => `(tactic| first | assumption | exact upd_same | (refine Vc.h_new (by assumption) ?_; walk_at "hp") | (refine Vc.h_mut (by assumption) ?_; walk_at "hp"))
local macro_rules | `(tactic| walk_at "sq") => `(tactic| first | assumption | (refine SqL.of ?_; walk_at "hp") | (refine SqT.of ?_; walk_at "hp"))
local macro_rules | `(tactic| walk_at "v1") => `(tactic| first
  | with_reducible refine Vc.v_seq ?_
  | with_reducible refine Vc.v_ret ?_
  | with_reducible refine Vc.v_retN ?_
  | with_reducible refine Vc.v_drop ?_
  | with_reducible refine Vc.v_next ?_
  | with_reducible refine Vc.v_asg ?_
  | with_reducible refine Vc.v_ifS ?_
  | ((with_reducible refine' Vc.v_name ?vv ?_); (case vv => ((conv => lhs; simp only [List.set_cons_succ, List.set_cons_zero]); first | done | exact rfl)))
  | ((with_reducible refine' Vc.v_var ?vv ?_); (case vv => exact rfl))
  | with_reducible refine Vc.v_c ?_
  | with_reducible refine Vc.v_op ?_
  | with_reducible refine Vc.v_un ?_
  | with_reducible refine Vc.v_chain ?_
  | with_reducible refine Vc.v_test ?_
  | with_reducible refine Vc.v_B ?_
  | with_reducible refine Vc.v_and ?_
  | with_reducible refine Vc.v_or ?_
  | with_reducible refine Vc.v_not ?_
  | with_reducible refine Vc.v_andV ?_
  | with_reducible refine Vc.v_orV ?_
  | with_reducible refine Vc.v_notV ?_
  | with_reducible refine Vc.v_if ?_
  | with_reducible refine Vc.v_bl ?_
  | with_reducible refine Vc.v_blP ?_
  | with_reducible refine Vc.v_cb ?_
  | with_reducible refine Vc.v_call ?_
  | with_reducible refine Vc.v_nil ?_
  | with_reducible refine Vc.v_cons ?_
  | with_reducible refine Vc.v_lst ?_
  | with_reducible refine Vc.v_tup ?_
  | with_reducible refine Vc.v_m0 ?_
  | with_reducible refine Vc.v_m1 ?_
  | with_reducible refine Vc.v_strAnd ?_
  | with_reducible refine Vc.v_sl ?_
  | with_reducible refine Vc.v_noPart ?_
  | with_reducible refine Vc.v_part ?_
  | with_reducible refine Vc.v_int ?_
  | with_reducible refine Vc.v_I0 ?_
  | with_reducible refine Vc.v_U ?_
  | with_reducible refine Vc.v_addI ?_
  | with_reducible refine Vc.v_leU ?_
  | with_reducible refine Vc.v_geU ?_
  | with_reducible refine Vc.v_gtU ?_
  | with_reducible refine Vc.v_ltU ?_
  | with_reducible refine Vc.v_ltS ?_
  | with_reducible refine Vc.v_max2 ?_
  | with_reducible refine Vc.v_min2 ?_
  | with_reducible refine Vc.v_reprB ?_
  | with_reducible refine Vc.v_intI ?_
  | with_reducible refine Vc.v_intB ?_
  | with_reducible refine Vc.v_strS ?_
  | with_reducible refine Vc.v_par ?_
  | ((with_reducible refine' Vc.v_twoS ?vv ?_); (case vv => ((conv => lhs; simp only [List.set_cons_succ, List.set_cons_zero]); first | done | exact rfl)))
  | with_reducible refine Vc.v_iteT ?_
  | with_reducible refine Vc.v_iteF ?_
  | with_reducible refine Vc.v_iteFt ?_
  | with_reducible refine Vc.v_iteTf ?_
  | with_reducible refine Vc.v_for ?_
  | with_reducible refine Vc.v_yes ?_
  | with_reducible refine Vc.v_sm0 ?_
  | with_reducible refine Vc.v_callKn ?_
  | with_reducible refine Vc.v_gSub ?_
  | with_reducible refine Vc.v_disp ?_
  | with_reducible refine Vc.v_pnil ?_
  | with_reducible refine Vc.v_pcons ?_
  | with_reducible refine Vc.v_lc ?_
  | with_reducible refine Vc.v_iList ?_
  | with_reducible refine Vc.v_iRng1 ?_
  | with_reducible refine Vc.v_iRng2 ?_
  | with_reducible refine Vc.v_iStr ?_
  | with_reducible refine Vc.v_inS ?_
  | with_reducible refine Vc.v_notInS ?_)
local macro_rules | `(tactic| walk_at "v") => `(tactic| repeat walk_at "v1")
local macro_rules | `(tactic| walk_at "sz") => `(tactic| (simp only [List.length_cons, List.length_nil, List.length_append, List.length_map, List.length_set, Vc.szE]; first | decide | omega))

def topS (i : Nat) : Stmt := PySem.Challenge.pw_surehollows_k01_heights_and_names.main.body.getD i (.Pass ⟨0, 0, 0, 0⟩)
structure Bt (mg : Str → Option Value) (mt : Tok) : Prop where
  b_isinstance : mg "isinstance" = none
  b_int : mg "int" = none
  b_bool : mg "bool" = none
  b_str : mg "str" = none
  b_len : mg "len" = none
  b_max : mg "max" = none
  b_min : mg "min" = none
  b_repr : mg "repr" = none
  b_range : mg "range" = none
  g_MOST_HEIGHT : mg "MOST_HEIGHT" = some (.int 1000000000000 mt)
/-- values of the kinds that are asked of -/
inductive Kd (K : PySem.W.Frag) (H : Hp) : V → String → Prop where
  | non : Kd K H .non "NoneType"
  | bl (b : Bool) : Kd K H (.bl b) "bool"
  | int (i : Int) : Kd K H (.int i) "int"
  | str (z : Str) (h : z.length ≤ sizeLine) : Kd K H (.str z) "str"
  | lst {a : Addr} {xs : List V} (e : H a = some (.lst xs)) : Kd K H (.ref a) "list"
  | tup {a : Addr} {xs : List V} (e : H a = some (.tup xs)) : Kd K H (.ref a) "tuple"
  | dK {a : Addr} {xs : List (Key × V)} (e : H a = some (.dK xs)) : Kd K H (.ref a) "dict"
theorem Kd.ty {K : PySem.W.Frag} {H : Hp} {v : V} {t : String} (h : Kd K H v t) : TyX K H v (.type t) := by
  cases h with
  | non => exact .base .non
  | bl b => exact .base (.bl b)
  | int i => exact .base (.int i)
  | str z h => exact .base (.str z)
  | lst e => exact .base (.lst e)
  | tup e => exact .base (.tup e)
  | dK e => exact .base (.dK e)
def vI : V → Bool
  | .int _ => true
  | .bl _ => true
  | _ => false
def vB : V → Bool
  | .bl _ => true
  | _ => false
def vS : V → Bool
  | .str _ => true
  | _ => false
theorem Kd.kI {K : PySem.W.Frag} {H : Hp} {v : V} {t : String} (h : Kd K H v t) : PySem.W.kitOne K (.type t) (.type "int") = some (vI v) := by
  cases h <;> first | exact kit_ty (r := true) (by decide +kernel) | exact kit_ty (r := false) (by decide +kernel)
theorem Kd.kB {K : PySem.W.Frag} {H : Hp} {v : V} {t : String} (h : Kd K H v t) : PySem.W.kitOne K (.type t) (.type "bool") = some (vB v) := by
  cases h <;> first | exact kit_ty (r := true) (by decide +kernel) | exact kit_ty (r := false) (by decide +kernel)
theorem Kd.kS {K : PySem.W.Frag} {H : Hp} {v : V} {t : String} (h : Kd K H v t) : PySem.W.kitOne K (.type t) (.type "str") = some (vS v) := by
  cases h <;> first | exact kit_ty (r := true) (by decide +kernel) | exact kit_ty (r := false) (by decide +kernel)
def isHt : V → Bool
  | .int i => decide (-1000000000000 ≤ i ∧ i ≤ 1000000000000)
  | _ => false
def nameB (z : Str) : Bool := decide (1 ≤ z.length ∧ z.length ≤ 8) && (Txt.isascii z && (Txt.isalpha z && Txt.islower z))
def isNm : V → Bool
  | .str z => nameB z
  | _ => false
def sp_is_height (K : PySem.W.Frag) : Sp := fun vs H Q _ => ∃ v t, vs = [v] ∧ Kd K H v t ∧ Q (.bl (isHt v)) H
def sp_is_name (K : PySem.W.Frag) : Sp := fun vs H Q _ => ∃ v t, vs = [v] ∧ Kd K H v t ∧ Q (.bl (isNm v)) H
abbrev s_is_height : Stmt := topS 2
abbrev n_is_height : List Str := ["value"]
theorem sc_is_height : FnScope n_is_height ["value"] (defScope s_is_height) := ⟨rfl, rfl, rfl, by decide +kernel, rfl, by decide +kernel, by decide +kernel⟩

abbrev s_is_name : Stmt := topS 3
abbrev n_is_name : List Str := ["value"]
theorem sc_is_name : FnScope n_is_name ["value"] (defScope s_is_name) := ⟨rfl, rfl, rfl, by decide +kernel, rfl, by decide +kernel, by decide +kernel⟩

section
variable {P : Program} {w : World} {K : PySem.W.Frag} {mg : Str → Option Value} {base : Heap} {mt : Tok}
theorem ok_is_height {f : Addr} {fd : FuncData} (F : Fun K "is_height" "is_height" s_is_height f fd) (B : Bt mg mt) : FnOk P w K mg base CX0 1 f fd ["value"] (sp_is_height K) := by
  refine F.ok sc_is_height (fun vs H Q E h => ?_) (fun cdv A outer s H vs Q E hr h => ?_)
  · obtain ⟨v, t, rfl, _⟩ := h
    rfl
  · obtain ⟨v, ty, rfl, hk, k⟩ := h
    refine ⟨_, (pss_cons (ps_if (PW.pt (pw_or (pt_not (pt_val (pe_callB (Vc.call_isiU K) (by rfl) B.b_isinstance (by decide +kernel) (pa_cons (pv 0) (pa_cons (pe_bltn (v := .ty "int") (by rfl) B.b_int (by decide +kernel) rfl) pa_nil))))) (pw_or1 (pt_val (pe_callB (Vc.call_isiU K) (by rfl) B.b_isinstance (by decide +kernel) (pa_cons (pv 0) (pa_cons (pe_bltn (v := .ty "bool") (by rfl) B.b_bool (by decide +kernel) rfl) pa_nil))))))) (pss_one (ps_ret pe_bl)) pss_nil)
      (pss_one (ps_ret (pe_chain Vc.op_leU Vc.op_leU (pe_un un_neg (pe_glob (v := .int 1000000000000) rfl B.g_MOST_HEIGHT ⟨_, rfl⟩)) (pv 0) (pe_glob (v := .int 1000000000000) rfl B.g_MOST_HEIGHT ⟨_, rfl⟩))))), ?_⟩
    refine Vc.v_start (σ' := [some v]) rfl ?_
    walk_at "v"
    refine Vc.v_isi (.ty "int") hk.ty hk.kI ?_
    walk_at "v"
    have hB : TyX K H v (.type ty) := hk.ty
    have kB := hk.kB
    cases hk with
    | int i =>
      refine Vc.v_iteE (c := false) rfl ?_
      walk_at "v"
      refine Vc.v_isi (.ty "bool") hB kB ?_
      walk_at "v"
      refine Vc.v_iteE (c := false) rfl ?_
      walk_at "v"
      refine Vc.v_iteD (fun h1 => ?_) (fun h1 => ?_)
      · walk_at "v"
        have e : decide (i ≤ 1000000000000) = isHt (.int i) := by
          unfold isHt
          rw [decide_eq_decide]
          omega
        rw [e]
        exact k
      · have e : false = isHt (.int i) := by
          unfold isHt
          rw [eq_comm, decide_eq_false_iff_not]
          omega
        rw [e]
        exact k
    | bl b =>
      refine Vc.v_iteE (c := false) rfl ?_
      walk_at "v"
      refine Vc.v_isi (.ty "bool") hB kB ?_
      walk_at "v"
      exact k
    | non => exact k
    | str z h => exact k
    | lst e => exact k
    | tup e => exact k
    | dK e => exact k
theorem ok_is_name {f : Addr} {fd : FuncData} (F : Fun K "is_name" "is_name" s_is_name f fd) (B : Bt mg mt) : FnOk P w K mg base CX0 1 f fd ["value"] (sp_is_name K) := by
  refine F.ok sc_is_name (fun vs H Q E h => ?_) (fun cdv A outer s H vs Q E hr h => ?_)
  · obtain ⟨v, t, rfl, _⟩ := h
    rfl
  · obtain ⟨v, ty, rfl, hk, k⟩ := h
    refine ⟨_, (pss_cons (ps_if (PW.pt (pw_or (pt_not (pt_val (pe_callB (Vc.call_isiU K) (by rfl) B.b_isinstance (by decide +kernel) (pa_cons (pv 0) (pa_cons (pe_bltn (v := .ty "str") (by rfl) B.b_str (by decide +kernel) rfl) pa_nil))))) (pw_or1 (pt_not (pt_chain Vc.op_leU Vc.op_leU pe_int (pe_callB (Vc.call_lenU K) (by rfl) B.b_len (by decide +kernel) (pa_cons (pv 0) pa_nil)) pe_int))))) (pss_one (ps_ret pe_bl)) pss_nil)
      (pss_one (ps_ret (pe_and (pe_m0 PySem.F.slot_str_isascii PySem.F.type_str_isascii mt_isascii (pv 0)) (pe_and (pe_m0 PySem.F.slot_str_isalpha PySem.F.type_str_isalpha mt_isalpha (pv 0)) (pe_one (pe_m0 PySem.F.slot_str_islower PySem.F.type_str_islower mt_islower (pv 0)))))))), ?_⟩
    refine Vc.v_start (σ' := [some v]) rfl ?_
    walk_at "v"
    refine Vc.v_isi (.ty "str") hk.ty hk.kS ?_
    walk_at "v"
    cases hk with
    | str z hz =>
      refine Vc.v_iteE (c := false) rfl ?_
      walk_at "v"
      refine Vc.v_lenS hz ?_
      walk_at "v"
      have e : nameB z = (decide (1 ≤ z.length ∧ z.length ≤ 8) && (Txt.isascii z && (Txt.isalpha z && Txt.islower z))) := rfl
      have k' : Q (.bl (nameB z)) H := k
      rw [e] at k'
      refine Vc.v_iteD (fun h1 => ?_) (fun h1 => ?_)
      · walk_at "v"
        refine Vc.v_iteN (fun h2 => ?_) (fun h2 => ?_)
        · walk_at "v"
          rw [decide_eq_false (by omega)] at k'
          exact k'
        · walk_at "v"
          rw [decide_eq_true (by omega)] at k'
          rw [Bool.true_and] at k'
          refine Vc.v_iteB (fun h3 => ?_) (fun h3 => ?_)
          · walk_at "v"
            rw [h3, Bool.true_and] at k'
            refine Vc.v_iteB (fun h4 => ?_) (fun h4 => ?_)
            · walk_at "v"
              rw [h4, Bool.true_and] at k'
              exact k'
            · rw [h4] at k'
              exact k'
          · rw [h3] at k'
            exact k'
      · walk_at "v"
        rw [decide_eq_false (by omega)] at k'
        exact k'
    | int i => exact k
    | bl b => exact k
    | non => exact k
    | lst e => exact k
    | tup e => exact k
    | dK e => exact k

/-! ### the law's own defs -/
structure BoxAt (H : Hp) (b : Addr) (n : Nat) : Prop where
  ex : ∃ g r c : Int, H b = some (.lst [.int g, .int r, .int c]) ∧ 0 ≤ r ∧ r < 2147483629 ∧ 0 ≤ c ∧ c ≤ n
def sp_cell (K : PySem.W.Frag) : Sp := fun vs H Q _ => ∃ a k, ∃ ns : List Int, vs = [.ref a, .int k] ∧ SqL K H a (ns.map V.int) ∧ 0 ≤ k ∧ k ≤ 1000 ∧ ∀ z, Q (.int z) H
def sp_box : Sp := fun vs H Q _ => ∃ z, vs = [.int z] ∧ ∀ p H', H p = none → BoxAt H' p 0 → Same H H' → Q (.ref p) H'
def sp_take : Sp := fun vs H Q _ => ∃ b m n, vs = [.ref b, .int m] ∧ BoxAt H b n ∧ n < 100000 ∧ 0 < m ∧ m ≤ 1000000000000 ∧ ∀ d H', 0 ≤ d → d < m → BoxAt H' b (n + 1) → Vc.But b H H' → Q (.int d) H'
abbrev s__law_cell : Stmt := topS 5
abbrev n__law_cell : List Str := ["_law_script", "_law_k"]
theorem sc__law_cell : FnScope n__law_cell ["_law_script", "_law_k"] (defScope s__law_cell) := ⟨rfl, rfl, rfl, by decide +kernel, rfl, by decide +kernel, by decide +kernel⟩

abbrev s__law_box : Stmt := topS 6
abbrev n__law_box : List Str := ["_law_cell_here"]
theorem sc__law_box : FnScope n__law_box ["_law_cell_here"] (defScope s__law_box) := ⟨rfl, rfl, rfl, by decide +kernel, rfl, by decide +kernel, by decide +kernel⟩

abbrev s__law_take : Stmt := topS 7
abbrev n__law_take : List Str := ["_law_box_here", "_law_many", "_law_digit", "_law_one", "_law_two"]
theorem sc__law_take : FnScope n__law_take ["_law_box_here", "_law_many"] (defScope s__law_take) := ⟨rfl, rfl, rfl, by decide +kernel, rfl, by decide +kernel, by decide +kernel⟩

abbrev s__law_named : Stmt := topS 8
abbrev n__law_named : List Str := ["_law_word", "_law_letters", "_law_sign"]
theorem sc__law_named : FnScope n__law_named ["_law_word"] (defScope s__law_named) := ⟨rfl, rfl, rfl, by decide +kernel, rfl, by decide +kernel, by decide +kernel⟩

theorem atI_ints {ns : List Int} {k : Int} (h0 : 0 ≤ k) (h1 : k < ns.length) : ∃ z, atI (ns.map V.int) k = some (.int z) := by
  have h : k.toNat < ns.length := by omega
  refine ⟨ns[k.toNat], ?_⟩
  unfold atI ixN
  rw [if_pos h0, List.length_map, if_pos h1]
  show (ns.map V.int)[k.toNat]? = _
  rw [List.getElem?_map, List.getElem?_eq_getElem h]
  rfl
theorem ok_cell {f : Addr} {fd : FuncData} (F : Fun K "_law_cell" "_law_cell" s__law_cell f fd) (B : Bt mg mt) : FnOk P w K mg base CX0 1 f fd ["_law_script", "_law_k"] (sp_cell K) := by
  refine F.ok sc__law_cell (fun vs H Q E h => ?_) (fun cdv A outer s H vs Q E hr h => ?_)
  · obtain ⟨v, t, ns, rfl, _⟩ := h
    rfl
  · obtain ⟨a, i, ns, rfl, hs, h0, h1, k⟩ := h
    refine ⟨_, (pss_one (ps_ret (pe_ifExp (pt_cmpR Vc.op_ltU (pv 1) (pe_callB (Vc.call_lenU K) (by rfl) B.b_len (by decide +kernel) (pa_cons (pv 0) pa_nil)) (nomark _)) (pe_ix (Vc.ix_U K) (pv 0) (pv 1) (fun _ _ => rfl)) (pe_op Vc.op_addU (pe_op Vc.op_mulU pe_int (pv 1)) pe_int)))), ?_⟩
    refine Vc.v_start (σ' := [some (.ref a), some (.int i)]) rfl ?_
    walk_at "v"
    refine Vc.v_lenL hs ?_
    walk_at "v"
    refine Vc.v_iteD (fun h2 => ?_) (fun h2 => ?_)
    · walk_at "v"
      rw [List.length_map] at h2
      obtain ⟨z, hz⟩ := atI_ints h0 h2
      exact Vc.v_ixL hs hz (k z)
    · walk_at "v"
      refine Vc.v_mulI (.inl ⟨by decide, by decide⟩) ?_
      walk_at "v"
      exact k _
theorem ok_box {f : Addr} {fd : FuncData} (F : Fun K "_law_box" "_law_box" s__law_box f fd) (B : Bt mg mt) : FnOk P w K mg base CX0 1 f fd ["_law_cell_here"] sp_box := by
  refine F.ok sc__law_box (fun vs H Q E h => ?_) (fun cdv A outer s H vs Q E hr h => ?_)
  · obtain ⟨v, rfl, _⟩ := h
    rfl
  · obtain ⟨z, rfl, k⟩ := h
    refine ⟨_, (pss_one (ps_ret (pe_lst (pa_cons (pe_callB (Vc.call_maxU K rfl) (by rfl) B.b_max (by decide +kernel) (pa_cons pe_int (pa_cons (pe_op op_sub (pv 0) (pe_op op_pow pe_int pe_int)) pa_nil))) (pa_cons (pe_op op_mod (pe_callTy Vc.call_intU (by rfl) B.b_int (by decide +kernel) (pa_cons (pv 0) pa_nil)) pe_int) (pa_cons pe_int pa_nil)))))), ?_⟩
    refine Vc.v_start (σ' := [some (.int z)]) rfl ?_
    walk_at "v"
    refine Vc.v_I ⟨by decide, by decide, by decide⟩ ?_
    walk_at "v"
    refine Vc.v_I (by decide) ?_
    walk_at "v"
    refine ⟨by walk_at "sz", fun p hp => ?_⟩
    refine k p _ hp ⟨_, _, _, upd_same, Int.emod_nonneg _ (by decide), Int.emod_lt_of_pos _ (by decide), by decide, by decide⟩ (fun b o e => Vc.h_new hp e)
theorem ok_take {f : Addr} {fd : FuncData} (F : Fun K "_law_take" "_law_take" s__law_take f fd) (B : Bt mg mt) : FnOk P w K mg base CX0 1 f fd ["_law_box_here", "_law_many"] sp_take := by
  refine F.ok sc__law_take (fun vs H Q E h => ?_) (fun cdv A outer s H vs Q E hr h => ?_)
  · obtain ⟨v, m, n, rfl, _⟩ := h
    rfl
  · obtain ⟨b, m, n, rfl, ⟨g, r, c, hb, hr0, hr1, hc0, hc1⟩, hn, hm0, hm1, k⟩ := h
    refine ⟨_, (pss_cons (ps_if (pt_cmpR Vc.op_gtU (pe_ix (Vc.ix_U K) (pv 0) pe_int (fun _ _ => rfl)) pe_int (nomark _)) (pss_cons (ps_set (i := 2) sc__law_take.nd rfl (Or.inl rfl) (pe_op op_mod (pe_callTy Vc.call_intU (by rfl) B.b_int (by decide +kernel) (pa_cons (pe_ix (Vc.ix_U K) (pv 0) pe_int (fun _ _ => rfl)) pa_nil)) (pv 1)))
      (pss_cons (ps_asg (pe_op op_fdivW (pe_ix (Vc.ix_U K) (pv 0) pe_int (fun _ _ => rfl)) (pv 1)) (pg_sub (pv 0) pe_int set_list))
      (pss_one (ps_ret (pv 2))))) pss_nil)
      (pss_cons (ps_asg (pe_op Vc.op_addU (pe_ix (Vc.ix_U K) (pv 0) pe_int (fun _ _ => rfl)) pe_int) (pg_sub (pv 0) pe_int set_list))
      (pss_cons (ps_set (i := 3) sc__law_take.nd rfl (Or.inl rfl) (pe_op op_mod (pe_op op_pow (pe_callTy Vc.call_intU (by rfl) B.b_int (by decide +kernel) (pa_cons (pe_op Vc.op_addU (pe_op Vc.op_addU (pe_ix (Vc.ix_U K) (pv 0) pe_int (fun _ _ => rfl)) (pe_op Vc.op_mulU pe_int (pe_ix (Vc.ix_U K) (pv 0) pe_int (fun _ _ => rfl)))) pe_int) pa_nil)) pe_int) pe_int))
      (pss_cons (ps_set (i := 4) sc__law_take.nd rfl (Or.inl rfl) (pe_op op_mod (pe_op op_pow (pe_callTy Vc.call_intU (by rfl) B.b_int (by decide +kernel) (pa_cons (pe_op Vc.op_addU (pe_op Vc.op_addU (pe_op op_fdivW (pv 3) pe_int) (pe_op Vc.op_mulU (pe_op Vc.op_mulU pe_int (pe_ix (Vc.ix_U K) (pv 0) pe_int (fun _ _ => rfl))) (pe_ix (Vc.ix_U K) (pv 0) pe_int (fun _ _ => rfl)))) pe_int) pa_nil)) pe_int) pe_int))
      (pss_one (ps_ret (pe_op op_mod (pe_callTy Vc.call_intU (by rfl) B.b_int (by decide +kernel) (pa_cons (pe_op Vc.op_addU (pe_op op_fdivW (pv 3) pe_int) (pe_op Vc.op_mulU pe_int (pe_op op_fdivW (pv 4) pe_int))) pa_nil)) (pv 1)))))))), ?_⟩
    refine Vc.v_start (σ' := [some (.ref b), some (.int m), none, none, none]) rfl ?_
    walk_at "v"
    refine Vc.v_ixL (SqL.of hb) (by rfl) ?_
    walk_at "v"
    refine Vc.v_iteD (fun h2 => ?_) (fun h2 => ?_)
    · walk_at "v"
      refine Vc.v_ixL (SqL.of hb) (by rfl) ?_
      walk_at "v"
      refine Vc.v_I hm0 ?_
      walk_at "v"
      refine Vc.v_ixL (SqL.of hb) (by rfl) ?_
      walk_at "v"
      refine Vc.v_div hm0 hm1 ?_
      walk_at "v"
      refine Vc.v_setL hb (by rfl) ?_
      walk_at "v"
      exact k _ _ (Int.emod_nonneg _ (by omega)) (Int.emod_lt_of_pos _ hm0) ⟨_, _, _, upd_same, hr0, hr1, hc0, by omega⟩ (Vc.But.at (Vc.But.refl b H))
    · walk_at "v"
      refine Vc.v_ixL (SqL.of hb) (by rfl) ?_
      walk_at "v"
      refine Vc.v_setL hb (by rfl) ?_
      walk_at "v"
      have hb' : ∀ x, upd H b (.lst x) b = some (.lst x) := fun x => upd_same
      refine Vc.v_ixL (SqL.of (hb' _)) (by rfl) ?_
      walk_at "v"
      refine Vc.v_ixL (SqL.of (hb' _)) (by rfl) ?_
      walk_at "v"
      refine Vc.v_mulI (.inl ⟨by decide, by decide⟩) ?_
      walk_at "v"
      refine Vc.v_I ⟨by decide, by decide, by omega⟩ ?_
      walk_at "v"
      refine Vc.v_I (by decide) ?_
      walk_at "v"
      generalize hx : (r + 15485863 * (c + 1) + 83) ^ Int.toNat 5 % 2147483647 = x
      have hx0 : 0 ≤ x := by rw [← hx]; exact Int.emod_nonneg _ (by decide)
      have hx1 : x < 2147483647 := by rw [← hx]; exact Int.emod_lt_of_pos _ (by decide)
      refine Vc.v_div (by decide) (by decide) ?_
      walk_at "v"
      refine Vc.v_ixL (SqL.of (hb' _)) (by rfl) ?_
      walk_at "v"
      refine Vc.v_mulI (.inl ⟨by decide, by decide⟩) ?_
      walk_at "v"
      refine Vc.v_ixL (SqL.of (hb' _)) (by rfl) ?_
      walk_at "v"
      refine Vc.v_mulI (.inr ⟨by omega, by omega⟩) ?_
      walk_at "v"
      have hq : 96581 * (c + 1) * (c + 1) ≤ 96581 * 100001 * 100001 := Int.mul_le_mul (by omega) (by omega) (by omega) (by decide)
      have hq0 : 0 ≤ 96581 * (c + 1) * (c + 1) := Int.mul_nonneg (by omega) (by omega)
      refine Vc.v_I ⟨by decide, by decide, by omega⟩ ?_
      walk_at "v"
      refine Vc.v_I (by decide) ?_
      walk_at "v"
      refine Vc.v_div (by decide) (by decide) ?_
      walk_at "v"
      refine Vc.v_div (by decide) (by decide) ?_
      walk_at "v"
      refine Vc.v_mulI (.inl ⟨by decide, by decide⟩) ?_
      walk_at "v"
      refine Vc.v_I hm0 ?_
      exact k _ _ (Int.emod_nonneg _ (by omega)) (Int.emod_lt_of_pos _ hm0) ⟨_, _, _, upd_same, hr0, hr1, by omega, by omega⟩ (Vc.But.at (Vc.But.refl b H))

def letters : Str := "abcdefghijklmnopqrstuvwxyz"
def asc (z : Str) : Prop := ∀ c ∈ z.cps.toList, c < 128
def sp_named : Sp := fun vs H Q _ => ∃ z, vs = [.str z] ∧ asc z ∧ z.length ≤ 100 ∧ ∀ H', Same H H' → Q (.bl (nameB z)) H'
theorem letter_in {c : Nat} : c ∈ letters.cps.toList ↔ 97 ≤ c ∧ c ≤ 122 := by
  have e : letters.cps.toList = (List.range 26).map (· + 97) := by decide +kernel
  rw [e, List.mem_map]
  constructor
  · rintro ⟨a, ha, rfl⟩
    rw [List.mem_range] at ha
    omega
  · intro h
    exact ⟨c - 97, by rw [List.mem_range]; omega, by omega⟩
theorem uni : ∀ c : Nat, c < 128 → (Unicode.isAlpha c = (decide (97 ≤ c ∧ c ≤ 122) || decide (65 ≤ c ∧ c ≤ 90))) ∧ Unicode.isLower c = decide (97 ≤ c ∧ c ≤ 122) ∧ Unicode.isUpper c = decide (65 ≤ c ∧ c ≤ 90) ∧ Unicode.isTitle c = false := by decide +kernel
theorem nameB_iff (z : Str) : nameB z = (decide (1 ≤ z.length ∧ z.length ≤ 8) && decide (∀ c ∈ z.cps.toList, 97 ≤ c ∧ c ≤ 122)) := by
  unfold nameB
  by_cases hl : 1 ≤ z.length ∧ z.length ≤ 8
  · rw [decide_eq_true hl, Bool.true_and, Bool.true_and]
    have h0 : z.cps.size > 0 := hl.1
    rw [Bool.eq_iff_iff, Bool.and_eq_true, Bool.and_eq_true, decide_eq_true_eq]
    unfold Txt.isascii Txt.isalpha Txt.islower
    rw [← Array.any_toList, ← Array.any_toList, ← Array.all_toList, ← Array.all_toList]
    simp only [Bool.and_eq_true, List.all_eq_true, List.any_eq_true, decide_eq_true_eq, Bool.not_eq_true', List.any_eq_false, Bool.or_eq_true, not_or]
    constructor
    · rintro ⟨ha, ⟨_, hb⟩, ⟨_, hd⟩⟩ c hc
      have u := uni c (ha c hc)
      have h1 := hb c hc
      have h2 := (hd c hc).1
      rw [u.1, Bool.or_eq_true, decide_eq_true_eq, decide_eq_true_eq] at h1
      rw [u.2.2.1, decide_eq_true_eq] at h2
      omega
    · intro h
      refine ⟨fun c hc => by have := h c hc; omega, ⟨hl.1, fun c hc => ?_⟩, ⟨⟨z.cps[0], Array.mem_toList_iff.mpr (Array.getElem_mem h0), ?_⟩, fun c hc => ?_⟩⟩
      · have h1 := h c hc
        rw [(uni c (by omega)).1, Bool.or_eq_true, decide_eq_true_eq]
        exact .inl h1
      · have h1 := h _ (Array.mem_toList_iff.mpr (Array.getElem_mem h0))
        rw [(uni _ (by omega)).2.1, decide_eq_true_eq]
        exact h1
      · have h1 := h c hc
        have u := uni c (by omega)
        rw [u.2.2.1, u.2.2.2, decide_eq_true_eq]
        exact ⟨by omega, by decide⟩
  · rw [decide_eq_false hl]
    rfl
theorem ok_named {f : Addr} {fd : FuncData} (F : Fun K "_law_named" "_law_named" s__law_named f fd) (B : Bt mg mt) : FnOk P w K mg base CX0 1 f fd ["_law_word"] sp_named := by
  refine F.ok sc__law_named (fun vs H Q E h => ?_) (fun cdv A outer s H vs Q E hr h => ?_)
  · obtain ⟨v, rfl, _⟩ := h
    rfl
  · obtain ⟨z, rfl, ha, hz, k⟩ := h
    rw [nameB_iff] at k
    have hz2 : z.length ≤ sizeLine := Nat.le_trans hz (by decide)
    refine ⟨_, (pss_cons (ps_set (i := 1) sc__law_named.nd rfl (Or.inr rfl) pe_str)
      (pss_one (ps_ret (pe_and (pe_cmpR Vc.op_leU pe_int (pe_callB (Vc.call_lenU K) (by rfl) B.b_len (by decide +kernel) (pa_cons (pv 0) pa_nil)) (nomark _)) (pe_and (pe_cmpR Vc.op_leU (pe_callB (Vc.call_lenU K) (by rfl) B.b_len (by decide +kernel) (pa_cons (pv 0) pa_nil)) pe_int (nomark _)) (pe_one (pe_cmpR (Vc.op_eqU K hr) (pe_lc (own := [("_law_sign", 2)]) rfl sc__law_named.nd (pi_str (pv 0)) (blkOk_by (N := n__law_named) (sc := defScope s__law_named) (own := [("_law_sign", 2)]) (by decide +kernel)) (fun _ _ _ _ _ => (pg_name (i := 2) sc__law_named.nd rfl (Or.inl rfl))) (fun _ _ _ _ _ => (pts_one (pt_cmpR (Vc.op_notInU K) (pv 2) (pv 1) (by rfl)))) (fun _ _ _ _ _ => (pv 2))) (pe_lst pa_nil) (nomark _)))))))), ?_⟩
    refine Vc.v_start (σ' := [some (.str z), none, none]) rfl ?_
    walk_at "v"
    refine Vc.v_lenS hz2 ?_
    walk_at "v"
    refine Vc.v_iteD (fun h1 => ?_) (fun h1 => ?_)
    · walk_at "v"
      refine Vc.v_lenS hz2 ?_
      walk_at "v"
      refine Vc.v_iteD (fun h2 => ?_) (fun h2 => ?_)
      · walk_at "v"
        refine Vc.e_lcS1 fun Dl hD => ?_
        refine ⟨fun i H' => Same H H' ∧ H' Dl = some (.lst ((((z.cps.toList.take i).filter fun c => !decide (c ∈ letters.cps.toList)).map fun c => (⟨#[c]⟩ : Str)).map V.str)), ⟨fun b o e => Vc.h_new hD e, upd_same⟩, fun i c H' hi p => ?_, fun H' p => ?_⟩
        · obtain ⟨p1, p2⟩ := p
          have hi' : z.cps.toList[i]? = some c := by rw [Array.getElem?_toList]; exact hi
          walk_at "v"
          refine Vc.v_iteN (fun h3 => ?_) (fun h3 => ?_)
          · have h3' : c ∉ letters.cps.toList := h3
            walk_at "v"
            refine ⟨_, p2, ?_, fun b o e => Vc.h_mut (ne_of_none e hD) (p1 b o e), ?_⟩
            · rw [List.length_map, List.length_map, Vc.szE]
              have h4 := List.length_filter_le (fun c => !decide (c ∈ letters.cps.toList)) (z.cps.toList.take i)
              have h5 := List.length_take_le' i z.cps.toList
              have h6 : z.cps.toList.length = z.length := Array.length_toList
              omega
            · rw [Vc.take_succ hi', List.filter_append, List.filter_cons, if_pos (by simp [h3']), List.map_append, List.map_append]
              exact upd_same
          · have h3' : c ∈ letters.cps.toList := h3
            refine ⟨p1, ?_⟩
            rw [Vc.take_succ hi', List.filter_append, List.filter_cons, if_neg (by simp [h3']), List.filter_nil, List.append_nil]
            exact p2
        · obtain ⟨p1, p2⟩ := p
          walk_at "v"
          refine ⟨by decide, fun l hl => ?_⟩
          have et : z.cps.toList.take z.cps.size = z.cps.toList := by rw [List.take_of_length_le (by simp)]
          rw [et] at p2
          refine Vc.v_eqD (.lst (SqL.of (Vc.h_new hl p2)) Vc.dp_strs) (.lst (SqL.of upd_same) .nil) (Vc.shaped_strs fun x hx => ?_) (by decide) ?_
          · rw [List.mem_map] at hx
            obtain ⟨c, hc, rfl⟩ := hx
            have h6 := ha c (List.mem_filter.mp hc).1
            show (#[c].all (· < 0x110000)) = true
            simp
            omega
          · rw [Vc.eqv_nil]
            rw [decide_eq_true (by omega), Bool.true_and] at k
            have e : (List.map PyData.str (List.map (fun c => (⟨#[c]⟩ : Str)) (List.filter (fun c => !decide (c ∈ letters.cps.toList)) z.cps.toList))).isEmpty = decide (∀ c ∈ z.cps.toList, 97 ≤ c ∧ c ≤ 122) := by
              rw [Bool.eq_iff_iff, decide_eq_true_eq, List.isEmpty_iff, List.map_eq_nil_iff, List.map_eq_nil_iff, List.filter_eq_nil_iff]
              constructor
              · intro h c hc
                have h7 := h c hc
                rw [Bool.not_eq_true', Bool.not_eq_false, decide_eq_true_eq] at h7
                exact letter_in.mp h7
              · intro h c hc
                rw [Bool.not_eq_true', Bool.not_eq_false, decide_eq_true_eq]
                exact letter_in.mpr (h c hc)
            rw [e]
            exact k _ fun b o e => Vc.h_new hl (p1 b o e)
      · rw [decide_eq_false (by omega)] at k
        exact k H (Same.refl H)
    · rw [decide_eq_false (by omega)] at k
      exact k H (Same.refl H)

abbrev s_law : Stmt := topS 9
abbrev n_law : List Str := ["_law_script", "_law_k", "_law_box_here", "_law_size", "_law_way", "_law_word", "_law_at", "_law_sign", "_law_odd", "_law_other", "_law_ends", "_law_number", "_law_j"]
theorem sc_law : FnScope n_law ["_law_script"] (defScope s_law) := ⟨rfl, rfl, rfl, by decide +kernel, rfl, by decide +kernel, by decide +kernel⟩

def spLaw (K : PySem.W.Frag) : Sp := fun vs H Q _ => ∃ (a : Addr) (ns : List Int), vs = [.ref a] ∧ SqL K H a (ns.map V.int) ∧ ns.length ≤ 63 ∧ ∀ H', Q (.bl true) H'
theorem let_at {d : Int} (h0 : 0 ≤ d) (h1 : d < 26) : atI ("abcdefghijklmnopqrstuvwxyz" : Str).cps.toList d = some (97 + d.toNat) := by
  have h : ∀ n : Nat, n < 26 → atI ("abcdefghijklmnopqrstuvwxyz" : Str).cps.toList (n : Int) = some (97 + n) := by decide +kernel
  have e : d = (d.toNat : Int) := by omega
  rw [e]
  exact h d.toNat (by omega)
theorem ok_law {f : Addr} {fd : FuncData} (F : Fun K "law" "law" s_law f fd) (B : Bt mg mt)
    (G_is_name : Vc.FnG P w K mg base CX0 1 "is_name" ["value"] (sp_is_name K)) (G_is_height : Vc.FnG P w K mg base CX0 1 "is_height" ["value"] (sp_is_height K))
    (G_is_height_value : Vc.FnGK P w K mg base CX0 1 "is_height" ["value"] 0 ["value"] (fun _ ws => ws) (fun _ zs => zs) (sp_is_height K))
    (G__law_cell : Vc.FnG P w K mg base CX0 1 "_law_cell" ["_law_script", "_law_k"] (sp_cell K)) (G__law_box : Vc.FnG P w K mg base CX0 1 "_law_box" ["_law_cell_here"] sp_box)
    (G__law_take : Vc.FnG P w K mg base CX0 1 "_law_take" ["_law_box_here", "_law_many"] sp_take) (G__law_named : Vc.FnG P w K mg base CX0 1 "_law_named" ["_law_word"] sp_named) : FnOk P w K mg base CX0 2 f fd ["_law_script"] (spLaw K) := by
  refine F.ok sc_law (fun vs H Q E h => ?_) (fun cdv A outer s H vs Q E hr h => ?_)
  · obtain ⟨a, ns, rfl, _⟩ := h
    rfl
  · obtain ⟨a, ns, rfl, hS, hlen, k⟩ := h
    refine ⟨_, (pss_cons (ps_if (pt_cmpR (Vc.op_neU K hr) (pe_glob (v := .int 1000000000000) rfl B.g_MOST_HEIGHT ⟨_, rfl⟩) (pe_op op_pow pe_int pe_int) (nomark _)) (pss_one (ps_ret pe_bl)) pss_nil)
      (pss_cons (ps_for PassesOwn.never rfl (pi_range1 rfl B.b_range (pa_cons (pe_callB (Vc.call_maxU K rfl) (by rfl) B.b_max (by decide +kernel) (pa_cons pe_int (pa_cons (pe_callB (Vc.call_minU K rfl) (by rfl) B.b_min (by decide +kernel) (pa_cons pe_int (pa_cons (pe_callB (Vc.call_lenU K) (by rfl) B.b_len (by decide +kernel) (pa_cons (pv 0) pa_nil)) pa_nil))) pa_nil))) pa_nil)) (pg_name (i := 1) sc_law.nd rfl (Or.inl rfl))
      (pss_cons (ps_set (i := 2) sc_law.nd rfl (Or.inr rfl) (Vc.pe_callG G__law_box hr (by decide) rfl pass0 (pa_cons (Vc.pe_callG G__law_cell hr (by decide) rfl pass0 (pa_cons (pv 0) (pa_cons (pv 1) pa_nil))) pa_nil)))
      (pss_cons (ps_par (i := 3) (j := 4) (by rfl) sc_law.nd rfl rfl (by decide) rfl rfl (pa_cons (pe_op Vc.op_addU pe_int (Vc.pe_callG G__law_take hr (by decide) rfl pass0 (pa_cons (pv 2) (pa_cons pe_int pa_nil)))) (pa_cons (Vc.pe_callG G__law_take hr (by decide) rfl pass0 (pa_cons (pv 2) (pa_cons pe_int pa_nil))) pa_nil)) (by rfl))
      (pss_cons (ps_set (i := 5) sc_law.nd rfl (Or.inl rfl) (pe_m1 PySem.F.slot_str_join PySem.F.type_str_join (Vc.mt_joinK K) pe_str (pe_lc (own := [("_law_j", 12)]) rfl sc_law.nd (pi_range1 rfl B.b_range (pa_cons (pv 3) pa_nil)) (blkOk_by (N := n_law) (sc := defScope s_law) (own := [("_law_j", 12)]) (by decide +kernel)) (fun _ _ _ _ _ => (pg_name (i := 12) sc_law.nd rfl (Or.inl rfl))) (fun _ _ _ _ _ => pts_nil) (fun _ _ _ _ _ => (pe_ix (Vc.ix_U K) pe_str (Vc.pe_callG G__law_take hr (by decide) rfl pass0 (pa_cons (pv 2) (pa_cons pe_int pa_nil))) (fun _ _ => rfl))))))
      (pss_cons (ps_set (i := 6) sc_law.nd rfl (Or.inl rfl) (Vc.pe_callG G__law_take hr (by decide) rfl pass0 (pa_cons (pv 2) (pa_cons (pv 3) pa_nil))))
      (pss_cons (ps_set (i := 7) sc_law.nd rfl (Or.inl rfl) (pe_ix (Vc.ix_U K) (pe_lst (pa_cons (pe_ix (Vc.ix_U K) (pv 5) (pv 6) (fun _ _ => rfl)) (pa_cons (pe_ix (Vc.ix_U K) (pv 5) (pv 6) (fun _ _ => rfl)) (pa_cons (pe_ix (Vc.ix_U K) (pv 5) (pv 6) (fun _ _ => rfl)) (pa_cons pe_str (pa_cons (pe_op Vc.op_mulU (pe_ix (Vc.ix_U K) (pv 5) (pv 6) (fun _ _ => rfl)) pe_int) (pa_cons pe_str (pa_cons pe_str (pa_cons pe_str (pa_cons pe_str (pa_cons pe_str (pa_cons pe_str (pa_cons pe_str (pa_cons pe_str (pa_cons pe_str pa_nil))))))))))))))) (pv 4) (fun _ _ => rfl)))
      (pss_cons (ps_set (i := 8) sc_law.nd rfl (Or.inl rfl) (pe_op Vc.op_addU (pe_op Vc.op_addU (pe_slice (Vc.sl_U K) (pv 5) po_none (po_some (pv 6))) (pv 7)) (pe_slice (Vc.sl_U K) (pv 5) (po_some (pe_op Vc.op_addU (pv 6) pe_int)) po_none)))
      (pss_cons (ps_if (PW.pt (pw_or (pt_cmpR (Vc.op_neU K hr) (pe_callB Vc.call_reprU (by rfl) B.b_repr (by decide +kernel) (pa_cons (Vc.pe_callG G_is_name hr (by decide) rfl pass0 (pa_cons (pv 8) pa_nil)) pa_nil)) (pe_callB Vc.call_reprU (by rfl) B.b_repr (by decide +kernel) (pa_cons (Vc.pe_callG G__law_named hr (by decide) rfl pass0 (pa_cons (pv 8) pa_nil)) pa_nil)) (nomark _)) (pw_or1 (pt_cmpR (Vc.op_neU K hr) (pe_callB Vc.call_reprU (by rfl) B.b_repr (by decide +kernel) (pa_cons (Vc.pe_callG G_is_name hr (by decide) rfl pass0 (pa_cons (pv 5) pa_nil)) pa_nil)) (pe_callB Vc.call_reprU (by rfl) B.b_repr (by decide +kernel) (pa_cons (pe_cmpR Vc.op_leU (pv 3) pe_int (nomark _)) pa_nil)) (nomark _))))) (pss_one (ps_ret pe_bl)) pss_nil)
      (pss_cons (ps_for PassesOwn.never rfl (Vc.pi_listK K (pe_lst (pa_cons pe_non (pa_cons pe_bl (pa_cons (pv 3) (pa_cons (pe_lst (pa_cons (pv 5) pa_nil)) (pa_cons (pe_tup (pa_cons (pv 5) pa_nil)) (pa_cons (pe_disp (pps_cons (pv 5) pe_int pps_nil) (by rfl) (by rfl) (fun z => by cases z) (by decide)) pa_nil)))))))) (pg_name (i := 9) sc_law.nd rfl (Or.inl rfl))
      (pss_one (ps_if (pt_cmpR (Vc.op_neU K hr) (pe_callB Vc.call_reprU (by rfl) B.b_repr (by decide +kernel) (pa_cons (Vc.pe_callG G_is_name hr (by decide) rfl pass0 (pa_cons (pv 9) pa_nil)) pa_nil)) pe_str (nomark _)) (pss_one (ps_ret pe_bl)) pss_nil)))
      (pss_cons (ps_set (i := 10) sc_law.nd rfl (Or.inl rfl) (pe_lst (pa_cons pe_int (pa_cons (pe_op op_pow pe_int pe_int) (pa_cons (pe_un un_neg (pe_op op_pow pe_int pe_int)) (pa_cons (Vc.pe_callG G__law_take hr (by decide) rfl pass0 (pa_cons (pv 2) (pa_cons (pe_op op_pow pe_int pe_int) pa_nil))) (pa_cons (pe_op op_pow pe_int pe_int) pa_nil)))))))
      (pss_cons (ps_set (i := 11) sc_law.nd rfl (Or.inl rfl) (pe_op op_sub (pe_op Vc.op_addU (pe_ix (Vc.ix_U K) (pv 10) (Vc.pe_callG G__law_take hr (by decide) rfl pass0 (pa_cons (pv 2) (pa_cons pe_int pa_nil))) (fun _ _ => rfl)) (Vc.pe_callG G__law_take hr (by decide) rfl pass0 (pa_cons (pv 2) (pa_cons pe_int pa_nil)))) pe_int))
      (pss_cons (ps_if (pt_cmpR (Vc.op_neU K hr) (pe_callB Vc.call_reprU (by rfl) B.b_repr (by decide +kernel) (pa_cons (Vc.pe_callGK0 G_is_height_value hr (by decide) rfl pass0 (pk_cons (pv 11) pk_nil)) pa_nil)) (pe_callB Vc.call_reprU (by rfl) B.b_repr (by decide +kernel) (pa_cons (pe_and (pe_cmpR Vc.op_leU (pe_un un_neg (pe_op op_pow pe_int pe_int)) (pv 11) (nomark _)) (pe_one (pe_cmpR Vc.op_leU (pv 11) (pe_op op_pow pe_int pe_int) (nomark _)))) pa_nil)) (nomark _)) (pss_one (ps_ret pe_bl)) pss_nil)
      (pss_one (ps_for PassesOwn.never rfl (Vc.pi_listK K (pe_lst (pa_cons pe_non (pa_cons pe_bl (pa_cons pe_bl (pa_cons (pe_callTy Vc.call_strU (by rfl) B.b_str (by decide +kernel) (pa_cons (pv 11) pa_nil)) (pa_cons (pe_lst (pa_cons (pv 11) pa_nil)) (pa_cons (pe_tup (pa_cons (pv 11) pa_nil)) (pa_cons (pe_disp (pps_cons pe_str (pv 11) pps_nil) (by rfl) (by rfl) (fun z => by cases z) (by decide)) (pa_cons (pv 5) pa_nil)))))))))) (pg_name (i := 9) sc_law.nd rfl (Or.inl rfl))
      (pss_one (ps_if (pt_cmpR (Vc.op_neU K hr) (pe_callB Vc.call_reprU (by rfl) B.b_repr (by decide +kernel) (pa_cons (Vc.pe_callG G_is_height hr (by decide) rfl pass0 (pa_cons (pv 9) pa_nil)) pa_nil)) pe_str (nomark _)) (pss_one (ps_ret pe_bl)) pss_nil))))))))))))))))
      (pss_one (ps_ret pe_bl)))), ?_⟩
    refine Vc.v_start (σ' := [some (.ref a), none, none, none, none, none, none, none, none, none, none, none, none]) rfl ?_
    walk_at "v"
    refine Vc.v_powc (z := 1000000000000) (by decide) (by decide) (by decide) (by decide) ?_
    refine Vc.v_neU (by rfl) ?_
    walk_at "v"
    refine Vc.v_iteNF rfl ?_
    walk_at "v"
    refine Vc.v_lenL hS ?_
    walk_at "v"
    generalize hN : (if (if ((ns.map V.int).length : Int) < 30 then ((ns.map V.int).length : Int) else 30) > 2 then (if ((ns.map V.int).length : Int) < 30 then ((ns.map V.int).length : Int) else 30) else 2) = N
    have hN1 : 0 ≤ N ∧ N ≤ 1000 := by
      rw [List.length_map] at hN
      split at hN <;> split at hN <;> omega
    refine Vc.e_forR1 ⟨hN1.1, by omega⟩ (fun i σ H' => ∃ x1 x2 x3 x4 x5 x6 x7 x8 x9 x10 x11 x12 : Option V, σ = [some (.ref a), x1, x2, x3, x4, x5, x6, x7, x8, x9, x10, x11, x12] ∧ SqL K H' a (ns.map V.int)) ⟨_, _, _, _, _, _, _, _, _, _, _, _, rfl, hS⟩ ?_ ?_
    · rintro i σ H0 hi ⟨x1, x2, x3, x4, x5, x6, x7, x8, x9, x10, x11, x12, rfl, hs⟩
      walk_at "v"
      refine ⟨a, _, ns, rfl, hs, by omega, by omega, fun z => ?_⟩
      walk_at "v"
      refine ⟨z, rfl, fun b H1 hb0 hB0 s1 => ?_⟩
      walk_at "v"
      refine ⟨b, 9, 0, rfl, hB0, by decide, by decide, by decide, fun d1 H2 d1a d1b hB1 k1 => ?_⟩
      walk_at "v"
      refine ⟨b, 14, _, rfl, hB1, by decide, by decide, by decide, fun d2 H3 d2a d2b hB2 k2 => ?_⟩
      walk_at "v"
      have s3 : Vc.But b H0 H3 := ((Vc.But.of s1).trans k1).trans k2
      refine Vc.e_lcR11 ⟨by omega, by omega⟩ fun Dl hD => ?_
      have hDb : Dl ≠ b := by
        obtain ⟨g, r, c, e, _⟩ := hB2.ex
        exact (ne_of_none e hD).symm
      refine ⟨fun i H' => Vc.But b H3 H' ∧ BoxAt H' b (2 + i) ∧ ∃ cs : List Nat, cs.length = i ∧ (∀ c ∈ cs, 97 ≤ c ∧ c ≤ 122) ∧ H' Dl = some (.lst ((cs.map fun c => (⟨#[c]⟩ : Str)).map V.str)), ⟨Vc.But.new (Vc.But.refl _ _) hD, ?_, [], rfl, (fun _ h => by cases h), upd_same⟩, fun j H' hj p => ?_, fun H' p => ?_⟩
      · obtain ⟨g, r, c, e, q⟩ := hB2.ex
        exact ⟨g, r, c, Vc.h_new hD e, q⟩
      · obtain ⟨p1, p2, cs, p3, p4, p5⟩ := p
        walk_at "v"
        refine ⟨b, 26, _, rfl, p2, by omega, by decide, by decide, fun d H4 d3a d3b hB4 k4 => ?_⟩
        refine Vc.v_ixS (by decide) (let_at d3a d3b) ?_
        have p6 : H4 Dl = _ := k4.get hDb p5
        refine ⟨_, p6, ?_, Vc.But.mut (p1.trans k4) hD, ?_, cs ++ [97 + d.toNat], by rw [List.length_append, p3]; rfl, ?_, ?_⟩
        · rw [List.length_map, List.length_map, p3, Vc.szE]
          omega
        · obtain ⟨g, r, c, e, q⟩ := hB4.ex
          exact ⟨g, r, c, Vc.h_mut hDb.symm e, q⟩
        · intro c hc
          rcases List.mem_append.mp hc with h | h
          · exact p4 c h
          · rw [List.mem_singleton] at h
            omega
        · rw [List.map_append, List.map_append]
          exact upd_same
      · obtain ⟨p1, p2, cs, p3, p4, p5⟩ := p
        refine ⟨"", Dl, _, rfl, rfl, .inl (SqL.of p5), ?_, ?_⟩
        · have e1 : ∀ l : List Nat, ((l.map fun c => (⟨#[c]⟩ : Str)).map (·.length)).sum = l.length := by
            intro l
            induction l with
            | nil => rfl
            | cons x r ih =>
              rw [List.map_cons, List.map_cons, List.sum_cons, ih, List.length_cons]
              show 1 + r.length = r.length + 1
              omega
          rw [e1, List.length_map]
          have e2 : ("" : Str).length = 0 := by decide
          rw [e2, p3]
          omega
        · generalize hw : Txt.join "" (cs.map fun c => (⟨#[c]⟩ : Str)) = word
          have hwl : word.cps.toList = cs := by rw [← hw]; exact Vc.join_ones cs
          have hwn : word.length = (1 + d1).toNat := by rw [Vc.len_tl, hwl, p3]
          walk_at "v"
          refine ⟨b, 1 + d1, _, rfl, p2, by omega, by omega, by omega, fun d4 H5 d4a d4b hB5 k5 => ?_⟩
          walk_at "v"
          have s5 : Vc.But b H0 H5 := (s3.trans p1).trans k5
          have hwz : word.length ≤ sizeLine := by rw [hwn, Vc.szE]; omega
          obtain ⟨hx, hat⟩ := Vc.atI_of (xs := word.cps.toList) (i := d4) d4a (by rw [← Vc.len_tl, hwn]; omega)
          have hcc : 97 ≤ word.cps.toList[d4.toNat] ∧ word.cps.toList[d4.toNat] ≤ 122 := p4 _ (by rw [← hwl]; exact List.getElem_mem hx)
          generalize word.cps.toList[d4.toNat] = cc at hat hcc
          refine Vc.v_ixS hwz hat ?_
          walk_at "v"
          refine Vc.v_ixS hwz hat ?_
          walk_at "v"
          refine Vc.v_ixS hwz hat ?_
          walk_at "v"
          refine Vc.v_ixS hwz hat ?_
          walk_at "v"
          refine Vc.v_mulS (by decide) (by decide) (by show 1 ≤ 1000; decide) ?_
          walk_at "v"
          refine ⟨by walk_at "sz", fun l hl => ?_⟩
          walk_at "v"
          have hm2 : (Txt.mul ⟨#[cc]⟩ 2).cps.toList = [cc, cc] := PyProof.Rows.mul_one_list cc 2
          obtain ⟨sg, hsg, hsa, hsl⟩ := Vc.atI_strs (L := [⟨#[cc]⟩, ⟨#[cc]⟩, ⟨#[cc]⟩, "", Txt.mul ⟨#[cc]⟩ 2, "A", "0", "-", " ", "\n", "_", "Z", "`", "{"]) (i := d2) (P := fun s => asc s ∧ s.length ≤ 2) d2a d2b (by
            have h1 : asc (⟨#[cc]⟩ : Str) ∧ (⟨#[cc]⟩ : Str).length ≤ 2 := ⟨fun c hc => by
              have hc' : c ∈ [cc] := hc
              rw [List.mem_singleton] at hc'
              omega, by show 1 ≤ 2; decide⟩
            have h2 : asc (Txt.mul ⟨#[cc]⟩ 2) ∧ (Txt.mul ⟨#[cc]⟩ 2).length ≤ 2 := ⟨fun c hc => by
              rw [hm2] at hc
              simp only [List.mem_cons, List.not_mem_nil, or_false, or_self] at hc
              omega, by rw [Vc.len_tl, hm2]; show 2 ≤ 2; decide⟩
            have h3 : ∀ s ∈ (["", "A", "0", "-", " ", "\n", "_", "Z", "`", "{"] : List Str), (∀ c ∈ s.cps.toList, c < 128) ∧ s.length ≤ 2 := by decide +kernel
            intro s hs
            simp only [List.mem_cons, List.not_mem_nil, or_false] at hs
            rcases hs with h | h | h | h | h | h | h | h | h | h | h | h | h | h
            · rw [h]; exact h1
            · rw [h]; exact h1
            · rw [h]; exact h1
            · rw [h]; exact h3 _ (by simp)
            · rw [h]; exact h2
            all_goals (rw [h]; exact h3 _ (by simp)))
          refine Vc.v_ixL (SqL.of upd_same) hsg ?_
          walk_at "v"
          have hl1 : (cutS word none (some d4)).length ≤ 9 := Nat.le_trans (cutS_length _ _ _) (by rw [hwn]; omega)
          have hl2 : (cutS word (some (d4 + 1)) none).length ≤ 9 := Nat.le_trans (cutS_length _ _ _) (by rw [hwn]; omega)
          refine Vc.v_slS hwz ?_
          walk_at "v"
          refine Vc.v_addS (by rw [Vc.szE]; omega) ?_
          walk_at "v"
          refine Vc.v_slS hwz ?_
          walk_at "v"
          refine Vc.v_addS (by rw [Vc.szE, Vc.len_app]; omega) ?_
          walk_at "v"
          have hasc : asc word := fun c hc => by
            have := p4 c (by rw [← hwl]; exact hc)
            omega
          generalize ho : cutS word none (some d4) ++ sg ++ cutS word (some (d4 + 1)) none = odd
          have hoa : asc odd := by
            rw [← ho]
            intro c hc
            rw [Vc.tl_app, Vc.tl_app] at hc
            rcases List.mem_append.mp hc with h | h
            · rcases List.mem_append.mp h with h | h
              · exact hasc c (Vc.tl_cut _ _ _ c h)
              · exact hsa c h
            · exact hasc c (Vc.tl_cut _ _ _ c h)
          have hol : odd.length ≤ 100 := by
            rw [← ho, Vc.len_app, Vc.len_app]
            omega
          have hoz : odd.length ≤ sizeLine := by rw [Vc.szE]; omega
          generalize hH6 : upd H5 l _ = H6
          have s6 : Vc.But b H0 H6 := by
            rw [← hH6]
            exact Vc.But.new s5 hl
          have hB6 : BoxAt H6 b (2 + (1 + d1).toNat + 1) := by
            obtain ⟨g, r, c, e, q⟩ := hB5.ex
            rw [← hH6]
            exact ⟨g, r, c, Vc.h_new hl e, q⟩
          refine ⟨.str odd, "str", rfl, .str odd hoz, ?_⟩
          walk_at "v"
          refine ⟨odd, rfl, hoa, hol, fun H7 s7 => ?_⟩
          walk_at "v"
          refine Vc.v_neU (by rfl) ?_
          walk_at "v"
          refine Vc.v_iteNF rfl ?_
          walk_at "v"
          refine ⟨.str word, "str", rfl, .str word hwz, ?_⟩
          walk_at "v"
          refine Vc.v_neU (by rfl) ?_
          walk_at "v"
          have hnm : nameB word = decide (1 + d1 ≤ 8) := by
            rw [nameB_iff, decide_eq_true (p := ∀ c ∈ word.cps.toList, 97 ≤ c ∧ c ≤ 122) (by rw [hwl]; exact p4), Bool.and_true, decide_eq_decide]
            omega
          refine Vc.v_iteNF (by show V.str (if nameB word = true then "True" else "False") = _; rw [hnm]) ?_
          walk_at "v"
          have s8 : Vc.But b H0 H7 := s6.trans (Vc.But.of s7)
          have hB8 : BoxAt H7 b (2 + (1 + d1).toNat + 1) := by
            obtain ⟨g, r, c, e, q⟩ := hB6.ex
            exact ⟨g, r, c, s7 _ _ e, q⟩
          refine ⟨by walk_at "sz", fun l1 hl1' => ?_⟩
          walk_at "v"
          refine ⟨by walk_at "sz", fun t1 ht1 => ?_⟩
          walk_at "v"
          intro dd hdd
          walk_at "v"
          refine ⟨upd_same, [(Sum.inr word, .int 1)], rfl, (by show 1 ≤ 15; decide), ?_⟩
          walk_at "v"
          refine ⟨by walk_at "sz", fun lx hlx => ?_⟩
          generalize hH9 : upd (upd (upd (upd (upd H7 l1 _) t1 _) dd _) dd _) lx _ = H9
          rw [upd_upd] at hlx
          rw [upd_upd] at hH9
          have g1 : H9 l1 = some (.lst [V.str word]) := by
            rw [← hH9]
            exact Vc.h_new hlx (Vc.h_new hdd (Vc.h_new ht1 upd_same))
          have g2 : H9 t1 = some (.tup [V.str word]) := by
            rw [← hH9]
            exact Vc.h_new hlx (Vc.h_new hdd upd_same)
          have g3 : H9 dd = some (.dK (mergeK [] [(Sum.inr word, V.int 1)])) := by
            rw [← hH9]
            exact Vc.h_new hlx upd_same
          have g4 : H9 lx = some (.lst [V.non, V.bl true, V.int (1 + d1), V.ref l1, V.ref t1, V.ref dd]) := by
            rw [← hH9]
            exact upd_same
          have s9 : Vc.But b H0 H9 := by
            rw [← hH9]
            exact Vc.But.new (Vc.But.new (Vc.But.new (Vc.But.new s8 hl1') ht1) hdd) hlx
          have hB9 : BoxAt H9 b (2 + (1 + d1).toNat + 1) := by
            obtain ⟨g, r, c, e, q⟩ := hB8.ex
            rw [← hH9]
            exact ⟨g, r, c, Vc.h_new hlx (Vc.h_new hdd (Vc.h_new ht1 (Vc.h_new hl1' e))), q⟩
          have hk9 : ∀ x ∈ [V.non, V.bl true, V.int (1 + d1), V.ref l1, V.ref t1, V.ref dd], ∃ t, Kd K H9 x t ∧ isNm x = false := by
            intro x hx
            simp only [List.mem_cons, List.not_mem_nil, or_false] at hx
            rcases hx with rfl | rfl | rfl | rfl | rfl | rfl
            · exact ⟨_, .non, rfl⟩
            · exact ⟨_, .bl _, rfl⟩
            · exact ⟨_, .int _, rfl⟩
            · exact ⟨_, .lst g1, rfl⟩
            · exact ⟨_, .tup g2, rfl⟩
            · exact ⟨_, .dK g3, rfl⟩
          refine Vc.e_forL (SqL.of g4) (fun j σ H' => H' = H9 ∧ ∃ y, σ = [some (V.ref a), some (V.int ↑i), some (V.ref b), some (V.int (1 + d1)), some (V.int d2), some (V.str word), some (V.int d4), some (V.str sg), some (V.str odd), y, x10, x11, x12]) ⟨rfl, _, rfl⟩ (fun j σ H' _ p => by rw [p.1]; exact SqL.of g4) ?_ ?_
          · rintro j x σ H' hj ⟨rfl, y, rfl⟩
            obtain ⟨t, hk, hn⟩ := hk9 x (List.mem_of_getElem? hj)
            walk_at "v"
            refine ⟨x, t, rfl, hk, ?_⟩
            rw [hn]
            walk_at "v"
            refine Vc.v_neU (by rfl) ?_
            walk_at "v"
            refine Vc.v_iteNF rfl ?_
            exact ⟨rfl, _, rfl⟩
          · rintro σ H' ⟨rfl, y, rfl⟩
            walk_at "v"
            refine Vc.v_powc (z := 1000000000000) (by decide) (by decide) (by decide) (by decide) ?_
            walk_at "v"
            refine Vc.v_powc (z := 1000000000000) (by decide) (by decide) (by decide) (by decide) ?_
            walk_at "v"
            refine Vc.v_powc (z := 1000000000000) (by decide) (by decide) (by decide) (by decide) ?_
            walk_at "v"
            refine ⟨b, 1000000000000, _, rfl, hB9, by omega, by decide, by decide, fun d5 HA d5a d5b hBA kA => ?_⟩
            walk_at "v"
            refine Vc.v_powc (z := 100000000000000000000000000000) (by decide) (by decide) (by decide) (by decide) ?_
            walk_at "v"
            refine ⟨by walk_at "sz", fun le hle => ?_⟩
            walk_at "v"
            have hBB : BoxAt (upd HA le (HO.lst [V.int 0, V.int 1000000000000, V.int (-1000000000000), V.int d5, V.int 100000000000000000000000000000])) b (2 + (1 + d1).toNat + 1 + 1) := by
              obtain ⟨g, r, c, e, q⟩ := hBA.ex
              exact ⟨g, r, c, Vc.h_new hle e, q⟩
            have hleb : le ≠ b := by
              obtain ⟨g, r, c, e, q⟩ := hBA.ex
              exact (ne_of_none e hle).symm
            refine ⟨b, 5, _, rfl, hBB, by omega, by decide, by decide, fun d6 HB d6a d6b hBB' kB => ?_⟩
            have ge : HB le = _ := kB.get hleb upd_same
            obtain ⟨he, hae⟩ := Vc.atI_of (xs := [V.int 0, V.int 1000000000000, V.int (-1000000000000), V.int d5, V.int 100000000000000000000000000000]) (i := d6) d6a d6b
            have hz : ∃ z : Int, [V.int 0, V.int 1000000000000, V.int (-1000000000000), V.int d5, V.int 100000000000000000000000000000][d6.toNat] = V.int z ∧ -1000000000000 ≤ z ∧ z ≤ 100000000000000000000000000000 := by
              have hm := List.getElem_mem he
              simp only [List.mem_cons, List.not_mem_nil, or_false] at hm
              rcases hm with h | h | h | h | h
              · exact ⟨_, h, by decide, by decide⟩
              · exact ⟨_, h, by decide, by decide⟩
              · exact ⟨_, h, by decide, by decide⟩
              · exact ⟨_, h, by omega, by omega⟩
              · exact ⟨_, h, by decide, by decide⟩
            obtain ⟨ez, hez, z1, z2⟩ := hz
            rw [hez] at hae
            refine Vc.v_ixL (SqL.of ge) hae ?_
            walk_at "v"
            refine ⟨b, 5, _, rfl, hBB', by omega, by decide, by decide, fun d7 HC d7a d7b hBC kC => ?_⟩
            walk_at "v"
            generalize hnum : ez + d7 - 2 = num
            have hn1 : num.natAbs < 2 ^ 200 := by
              have : num.natAbs ≤ 100000000000000000000000000003 := by omega
              exact Nat.lt_of_le_of_lt this (by decide)
            have sC : Vc.But b H0 HC := (((s9.trans kA).trans (Vc.But.new (Vc.But.refl _ _) hle)).trans kB).trans kC
            refine ⟨rfl, rfl, .int num, "int", rfl, .int num, ?_⟩
            walk_at "v"
            refine Vc.v_powc (z := 1000000000000) (by decide) (by decide) (by decide) (by decide) ?_
            walk_at "v"
            have hkt : ∀ bb : Bool, bb = isHt (.int num) → (!decide (V.str (if isHt (.int num) = true then "True" else "False") = V.str (if bb = true then "True" else "False"))) = false := by
              intro bb e
              rw [e, decide_eq_true rfl]
              rfl
            refine Vc.v_iteD (fun h1 => ?_) (fun h1 => ?_)
            · walk_at "v"
              refine Vc.v_powc (z := 1000000000000) (by decide) (by decide) (by decide) (by decide) ?_
              walk_at "v"
              refine Vc.v_neU (by rfl) ?_
              walk_at "v"
              rw [hkt _ (by unfold isHt; rw [decide_eq_decide]; omega)]
              walk_at "v"
              refine Vc.v_strI (Vc.log2_small hn1) ?_
              walk_at "v"
              refine ⟨by walk_at "sz", fun l2 hl2' => ?_⟩
              walk_at "v"
              refine ⟨by walk_at "sz", fun t2 ht2 => ?_⟩
              walk_at "v"
              intro dd2 hdd2
              walk_at "v"
              refine ⟨upd_same, [(Sum.inr "a", .int num)], rfl, (by show 1 ≤ 15; decide), ?_⟩
              walk_at "v"
              refine ⟨by walk_at "sz", fun ly hly => ?_⟩
              generalize hHD : upd (upd (upd (upd (upd HC l2 _) t2 _) dd2 _) dd2 _) ly _ = HD
              rw [upd_upd] at hly
              rw [upd_upd] at hHD
              have f1 : HD l2 = some (.lst [V.int num]) := by
                rw [← hHD]
                exact Vc.h_new hly (Vc.h_new hdd2 (Vc.h_new ht2 upd_same))
              have f2 : HD t2 = some (.tup [V.int num]) := by
                rw [← hHD]
                exact Vc.h_new hly (Vc.h_new hdd2 upd_same)
              have f3 : HD dd2 = some (.dK (mergeK [] [(Sum.inr "a", V.int num)])) := by
                rw [← hHD]
                exact Vc.h_new hly upd_same
              have f4 : HD ly = some (.lst [V.non, V.bl true, V.bl false, V.str (toString num), V.ref l2, V.ref t2, V.ref dd2, V.str word]) := by
                rw [← hHD]
                exact upd_same
              have sD : Vc.But b H0 HD := by
                rw [← hHD]
                exact Vc.But.new (Vc.But.new (Vc.But.new (Vc.But.new sC hl2') ht2) hdd2) hly
              have hts : (Str.ofString (toString num)).length ≤ sizeLine := Vc.len_num (Vc.log2_small hn1)
              have hkD : ∀ x ∈ [V.non, V.bl true, V.bl false, V.str (toString num), V.ref l2, V.ref t2, V.ref dd2, V.str word], ∃ t, Kd K HD x t ∧ isHt x = false := by
                intro x hx
                simp only [List.mem_cons, List.not_mem_nil, or_false] at hx
                rcases hx with rfl | rfl | rfl | rfl | rfl | rfl | rfl | rfl
                · exact ⟨_, .non, rfl⟩
                · exact ⟨_, .bl _, rfl⟩
                · exact ⟨_, .bl _, rfl⟩
                · exact ⟨_, .str _ hts, rfl⟩
                · exact ⟨_, .lst f1, rfl⟩
                · exact ⟨_, .tup f2, rfl⟩
                · exact ⟨_, .dK f3, rfl⟩
                · exact ⟨_, .str _ hwz, rfl⟩
              refine Vc.e_forL (SqL.of f4) (fun j σ H' => H' = HD ∧ ∃ y, σ = [some (V.ref a), some (V.int ↑i), some (V.ref b), some (V.int (1 + d1)), some (V.int d2), some (V.str word), some (V.int d4), some (V.str sg), some (V.str odd), y, some (V.ref le), some (V.int num), x12]) ⟨rfl, _, rfl⟩ (fun j σ H' _ p => by rw [p.1]; exact SqL.of f4) ?_ ?_
              · rintro j x σ H' hj ⟨rfl, y, rfl⟩
                obtain ⟨t, hk, hn⟩ := hkD x (List.mem_of_getElem? hj)
                walk_at "v"
                refine ⟨x, t, rfl, hk, ?_⟩
                rw [hn]
                walk_at "v"
                refine Vc.v_neU (by rfl) ?_
                walk_at "v"
                refine Vc.v_iteNF rfl ?_
                exact ⟨rfl, _, rfl⟩
              · rintro σ H' ⟨rfl, y, rfl⟩
                exact ⟨_, _, _, _, _, _, _, _, _, _, _, _, rfl, sD.seqN hb0 hs⟩
            · walk_at "v"
              refine Vc.v_neU (by rfl) ?_
              walk_at "v"
              rw [hkt _ (by unfold isHt; rw [eq_comm, decide_eq_false_iff_not]; omega)]
              walk_at "v"
              refine Vc.v_strI (Vc.log2_small hn1) ?_
              walk_at "v"
              refine ⟨by walk_at "sz", fun l2 hl2' => ?_⟩
              walk_at "v"
              refine ⟨by walk_at "sz", fun t2 ht2 => ?_⟩
              walk_at "v"
              intro dd2 hdd2
              walk_at "v"
              refine ⟨upd_same, [(Sum.inr "a", .int num)], rfl, (by show 1 ≤ 15; decide), ?_⟩
              walk_at "v"
              refine ⟨by walk_at "sz", fun ly hly => ?_⟩
              generalize hHD : upd (upd (upd (upd (upd HC l2 _) t2 _) dd2 _) dd2 _) ly _ = HD
              rw [upd_upd] at hly
              rw [upd_upd] at hHD
              have f1 : HD l2 = some (.lst [V.int num]) := by
                rw [← hHD]
                exact Vc.h_new hly (Vc.h_new hdd2 (Vc.h_new ht2 upd_same))
              have f2 : HD t2 = some (.tup [V.int num]) := by
                rw [← hHD]
                exact Vc.h_new hly (Vc.h_new hdd2 upd_same)
              have f3 : HD dd2 = some (.dK (mergeK [] [(Sum.inr "a", V.int num)])) := by
                rw [← hHD]
                exact Vc.h_new hly upd_same
              have f4 : HD ly = some (.lst [V.non, V.bl true, V.bl false, V.str (toString num), V.ref l2, V.ref t2, V.ref dd2, V.str word]) := by
                rw [← hHD]
                exact upd_same
              have sD : Vc.But b H0 HD := by
                rw [← hHD]
                exact Vc.But.new (Vc.But.new (Vc.But.new (Vc.But.new sC hl2') ht2) hdd2) hly
              have hts : (Str.ofString (toString num)).length ≤ sizeLine := Vc.len_num (Vc.log2_small hn1)
              have hkD : ∀ x ∈ [V.non, V.bl true, V.bl false, V.str (toString num), V.ref l2, V.ref t2, V.ref dd2, V.str word], ∃ t, Kd K HD x t ∧ isHt x = false := by
                intro x hx
                simp only [List.mem_cons, List.not_mem_nil, or_false] at hx
                rcases hx with rfl | rfl | rfl | rfl | rfl | rfl | rfl | rfl
                · exact ⟨_, .non, rfl⟩
                · exact ⟨_, .bl _, rfl⟩
                · exact ⟨_, .bl _, rfl⟩
                · exact ⟨_, .str _ hts, rfl⟩
                · exact ⟨_, .lst f1, rfl⟩
                · exact ⟨_, .tup f2, rfl⟩
                · exact ⟨_, .dK f3, rfl⟩
                · exact ⟨_, .str _ hwz, rfl⟩
              refine Vc.e_forL (SqL.of f4) (fun j σ H' => H' = HD ∧ ∃ y, σ = [some (V.ref a), some (V.int ↑i), some (V.ref b), some (V.int (1 + d1)), some (V.int d2), some (V.str word), some (V.int d4), some (V.str sg), some (V.str odd), y, some (V.ref le), some (V.int num), x12]) ⟨rfl, _, rfl⟩ (fun j σ H' _ p => by rw [p.1]; exact SqL.of f4) ?_ ?_
              · rintro j x σ H' hj ⟨rfl, y, rfl⟩
                obtain ⟨t, hk, hn⟩ := hkD x (List.mem_of_getElem? hj)
                walk_at "v"
                refine ⟨x, t, rfl, hk, ?_⟩
                rw [hn]
                walk_at "v"
                refine Vc.v_neU (by rfl) ?_
                walk_at "v"
                refine Vc.v_iteNF rfl ?_
                exact ⟨rfl, _, rfl⟩
              · rintro σ H' ⟨rfl, y, rfl⟩
                exact ⟨_, _, _, _, _, _, _, _, _, _, _, _, rfl, sD.seqN hb0 hs⟩
    · rintro σ H' _
      exact k H'
end
theorem all_mk {l : PySem.W.OpenLaw} {w : World} {K : PySem.W.Frag} {h : Heap} {mg : Str → Option Value} {fa : Addr} (X : K.In h) (G : h.Ns mainGlobals mg) (hfa : mg "law" = some (.ref fa))
    {f_is_height : Addr} {oc_is_height kV_is_height dc_is_height pm_is_height cd_is_height ct_is_height : Value} {od_is_height an_is_height : Option Addr} {sl_is_height : Array (Option Value)}
    {f_is_name : Addr} {oc_is_name kV_is_name dc_is_name pm_is_name cd_is_name ct_is_name : Value} {od_is_name an_is_name : Option Addr} {sl_is_name : Array (Option Value)}
    {f__law_cell : Addr} {oc__law_cell kV__law_cell dc__law_cell pm__law_cell cd__law_cell ct__law_cell : Value} {od__law_cell an__law_cell : Option Addr} {sl__law_cell : Array (Option Value)}
    {f__law_box : Addr} {oc__law_box kV__law_box dc__law_box pm__law_box cd__law_box ct__law_box : Value} {od__law_box an__law_box : Option Addr} {sl__law_box : Array (Option Value)}
    {f__law_take : Addr} {oc__law_take kV__law_take dc__law_take pm__law_take cd__law_take ct__law_take : Value} {od__law_take an__law_take : Option Addr} {sl__law_take : Array (Option Value)}
    {f__law_named : Addr} {oc__law_named kV__law_named dc__law_named pm__law_named cd__law_named ct__law_named : Value} {od__law_named an__law_named : Option Addr} {sl__law_named : Array (Option Value)}
    {f_law : Addr} {oc_law kV_law dc_law pm_law cd_law ct_law : Value} {od_law an_law : Option Addr} {sl_law : Array (Option Value)}
    {t_MOST_HEIGHT : Tok}
    (a_is_height : PySem.W.nsIn K mainGlobals "is_height" = some (some (.ref f_is_height)))
    (l_is_height : K.lookup f_is_height = some ⟨oc_is_height, od_is_height, .func (PySem.W.fnOf "is_height" "is_height" (defArgs s_is_height) (defBody s_is_height) (defScope s_is_height) .none kV_is_height dc_is_height pm_is_height an_is_height cd_is_height ct_is_height), sl_is_height⟩)
    (c_is_height : PySem.W.codeIn K cd_is_height "is_height" = true)
    (k_is_height : PySem.W.keepIn K (.ref f_is_height) = true)
    (a_is_name : PySem.W.nsIn K mainGlobals "is_name" = some (some (.ref f_is_name)))
    (l_is_name : K.lookup f_is_name = some ⟨oc_is_name, od_is_name, .func (PySem.W.fnOf "is_name" "is_name" (defArgs s_is_name) (defBody s_is_name) (defScope s_is_name) .none kV_is_name dc_is_name pm_is_name an_is_name cd_is_name ct_is_name), sl_is_name⟩)
    (c_is_name : PySem.W.codeIn K cd_is_name "is_name" = true)
    (k_is_name : PySem.W.keepIn K (.ref f_is_name) = true)
    (a__law_cell : PySem.W.nsIn K mainGlobals "_law_cell" = some (some (.ref f__law_cell)))
    (l__law_cell : K.lookup f__law_cell = some ⟨oc__law_cell, od__law_cell, .func (PySem.W.fnOf "_law_cell" "_law_cell" (defArgs s__law_cell) (defBody s__law_cell) (defScope s__law_cell) .none kV__law_cell dc__law_cell pm__law_cell an__law_cell cd__law_cell ct__law_cell), sl__law_cell⟩)
    (c__law_cell : PySem.W.codeIn K cd__law_cell "_law_cell" = true)
    (k__law_cell : PySem.W.keepIn K (.ref f__law_cell) = true)
    (a__law_box : PySem.W.nsIn K mainGlobals "_law_box" = some (some (.ref f__law_box)))
    (l__law_box : K.lookup f__law_box = some ⟨oc__law_box, od__law_box, .func (PySem.W.fnOf "_law_box" "_law_box" (defArgs s__law_box) (defBody s__law_box) (defScope s__law_box) .none kV__law_box dc__law_box pm__law_box an__law_box cd__law_box ct__law_box), sl__law_box⟩)
    (c__law_box : PySem.W.codeIn K cd__law_box "_law_box" = true)
    (k__law_box : PySem.W.keepIn K (.ref f__law_box) = true)
    (a__law_take : PySem.W.nsIn K mainGlobals "_law_take" = some (some (.ref f__law_take)))
    (l__law_take : K.lookup f__law_take = some ⟨oc__law_take, od__law_take, .func (PySem.W.fnOf "_law_take" "_law_take" (defArgs s__law_take) (defBody s__law_take) (defScope s__law_take) .none kV__law_take dc__law_take pm__law_take an__law_take cd__law_take ct__law_take), sl__law_take⟩)
    (c__law_take : PySem.W.codeIn K cd__law_take "_law_take" = true)
    (k__law_take : PySem.W.keepIn K (.ref f__law_take) = true)
    (a__law_named : PySem.W.nsIn K mainGlobals "_law_named" = some (some (.ref f__law_named)))
    (l__law_named : K.lookup f__law_named = some ⟨oc__law_named, od__law_named, .func (PySem.W.fnOf "_law_named" "_law_named" (defArgs s__law_named) (defBody s__law_named) (defScope s__law_named) .none kV__law_named dc__law_named pm__law_named an__law_named cd__law_named ct__law_named), sl__law_named⟩)
    (c__law_named : PySem.W.codeIn K cd__law_named "_law_named" = true)
    (k__law_named : PySem.W.keepIn K (.ref f__law_named) = true)
    (a_law : PySem.W.nsIn K mainGlobals "law" = some (some (.ref f_law)))
    (l_law : K.lookup f_law = some ⟨oc_law, od_law, .func (PySem.W.fnOf "law" "law" (defArgs s_law) (defBody s_law) (defScope s_law) .none kV_law dc_law pm_law an_law cd_law ct_law), sl_law⟩)
    (c_law : PySem.W.codeIn K cd_law "law" = true)
    (k_law : PySem.W.keepIn K (.ref f_law) = true)
    (z_isinstance : PySem.W.nsIn K mainGlobals "isinstance" = some none)
    (z_int : PySem.W.nsIn K mainGlobals "int" = some none)
    (z_bool : PySem.W.nsIn K mainGlobals "bool" = some none)
    (z_str : PySem.W.nsIn K mainGlobals "str" = some none)
    (z_len : PySem.W.nsIn K mainGlobals "len" = some none)
    (z_max : PySem.W.nsIn K mainGlobals "max" = some none)
    (z_min : PySem.W.nsIn K mainGlobals "min" = some none)
    (z_repr : PySem.W.nsIn K mainGlobals "repr" = some none)
    (z_range : PySem.W.nsIn K mainGlobals "range" = some none)
    (g_MOST_HEIGHT : PySem.W.nsIn K mainGlobals "MOST_HEIGHT" = some (some (.int 1000000000000 t_MOST_HEIGHT))) :
    ∃ fd : FuncData, (∀ (s : Shared) (v : Value), BindsTo s fd ⟨[v], []⟩ [("_law_script", v)]) ∧ ∀ base : Heap, K.In base → base.Ns mainGlobals mg → FnOk l.prog w K mg base CX0 2 fa fd ["_law_script"] (spLaw K) := by
  have e := hfa.symm.trans (PySem.W.mg_of X G a_law)
  cases e
  have B : Bt mg t_MOST_HEIGHT := ⟨PySem.W.mg_none_of X G z_isinstance, PySem.W.mg_none_of X G z_int, PySem.W.mg_none_of X G z_bool, PySem.W.mg_none_of X G z_str, PySem.W.mg_none_of X G z_len, PySem.W.mg_none_of X G z_max, PySem.W.mg_none_of X G z_min, PySem.W.mg_none_of X G z_repr, PySem.W.mg_none_of X G z_range, PySem.W.mg_of X G g_MOST_HEIGHT⟩
  have F_is_height := fun_mk (st := s_is_height) l_is_height c_is_height k_is_height
  have b_is_height := F_is_height.binds (ps := ["value"]) fun _ _ _ _ _ _ us hl => match us, hl with | [_], _ => rfl
  have F_is_name := fun_mk (st := s_is_name) l_is_name c_is_name k_is_name
  have b_is_name := F_is_name.binds (ps := ["value"]) fun _ _ _ _ _ _ us hl => match us, hl with | [_], _ => rfl
  have F__law_cell := fun_mk (st := s__law_cell) l__law_cell c__law_cell k__law_cell
  have b__law_cell := F__law_cell.binds (ps := ["_law_script", "_law_k"]) fun _ _ _ _ _ _ us hl => match us, hl with | [_, _], _ => rfl
  have F__law_box := fun_mk (st := s__law_box) l__law_box c__law_box k__law_box
  have b__law_box := F__law_box.binds (ps := ["_law_cell_here"]) fun _ _ _ _ _ _ us hl => match us, hl with | [_], _ => rfl
  have F__law_take := fun_mk (st := s__law_take) l__law_take c__law_take k__law_take
  have b__law_take := F__law_take.binds (ps := ["_law_box_here", "_law_many"]) fun _ _ _ _ _ _ us hl => match us, hl with | [_, _], _ => rfl
  have F__law_named := fun_mk (st := s__law_named) l__law_named c__law_named k__law_named
  have b__law_named := F__law_named.binds (ps := ["_law_word"]) fun _ _ _ _ _ _ us hl => match us, hl with | [_], _ => rfl
  have F_law := fun_mk (st := s_law) l_law c_law k_law
  have kb_is_height : KBn K _ ["value"] 0 ["value"] (fun _ ws => ws) (fun _ zs => zs) := ⟨fun s us ws _ hu hw => match us, ws, hu, hw with | [], [_], _, _ => BindsTo.of_eq (fd := PySem.W.fnOf "is_height" "is_height" (defArgs s_is_height) (defBody s_is_height) (defScope s_is_height) .none kV_is_height dc_is_height pm_is_height an_is_height cd_is_height ct_is_height) rfl, fun _ h => h⟩
  refine ⟨PySem.W.fnOf "law" "law" (defArgs s_law) (defBody s_law) (defScope s_law) .none kV_law dc_law pm_law an_law cd_law ct_law, fun s v => .of_eq rfl, fun base _ _ => ?_⟩
  exact ok_law F_law B ⟨_, _, ok_is_name F_is_name B, PySem.W.mg_of X G a_is_name, k_is_name, b_is_name⟩ ⟨_, _, ok_is_height F_is_height B, PySem.W.mg_of X G a_is_height, k_is_height, b_is_height⟩ ⟨_, _, ok_is_height F_is_height B, PySem.W.mg_of X G a_is_height, k_is_height, kb_is_height⟩ ⟨_, _, ok_cell F__law_cell B, PySem.W.mg_of X G a__law_cell, k__law_cell, b__law_cell⟩ ⟨_, _, ok_box F__law_box B, PySem.W.mg_of X G a__law_box, k__law_box, b__law_box⟩ ⟨_, _, ok_take F__law_take B, PySem.W.mg_of X G a__law_take, k__law_take, b__law_take⟩ ⟨_, _, ok_named F__law_named B, PySem.W.mg_of X G a__law_named, k__law_named, b__law_named⟩
theorem walk {l : PySem.W.OpenLaw} {q : Program} {loose : List Str} {XP : (Str → Option Value) → Heap → Prop} {YP : World → Heap → Prop} {d : DefRec} {K : Params → PySem.W.Frag} (hn : l.most = some 63) (hdf : d.params.defaults = [])
    (hY : ∀ (w : World) (h : Heap), YP w h → (K w.params).In h)
    (F : ∀ (w : World) (mg : Str → Option Value) (fa : Addr) (h : Heap), (K w.params).In h → h.Ns mainGlobals mg → mg d.name = some (.ref fa) →
      ∃ fd : FuncData, (∀ (s : Shared) (u : Value), BindsTo s fd ⟨[u], []⟩ [("_law_script", u)]) ∧ ∀ base : Heap, (K w.params).In base → base.Ns mainGlobals mg → FnOk l.prog w (K w.params) mg base CX0 2 fa fd ["_law_script"] (spLaw (K w.params))) :
    PySem.W.WalkO q loose XP YP l.row.toRowW d [] (fun f vs => PySem.call f vs) :=
  L2.walk_of (n := 63) (k := 2) (x := "_law_script") (CX := fun _ => CX0) (sp := fun w => spLaw (K w.params)) hn (by decide) hdf ⟨rfl, by decide, by decide⟩ hY F (fun _ _ a ns hl _ hS => ⟨a, ns, rfl, hS, hl, fun _ => rfl⟩) fun _ _ _ _ _ z => z
end K01
open PySem PySem.W PyProof.Rows
set_option maxRecDepth 100000 in
set_option maxHeartbeats 0 in
theorem PySem.Challenge.cw_surehollows_k01_heights_and_names_holds : PySem.Challenge.rw_surehollows_k01_heights_and_names.Holds := by
  w_on; o_law; k_head; (case hw => w_witness2)
  k_fill
  refine K01.walk (l := PySem.Challenge.rw_surehollows_k01_heights_and_names) rfl rfl (fun w h Y => PySem.W.kIn_of Y) ?F
  case F =>
    intro w mg fa h KX G hmg
    refine' K01.all_mk KX G hmg ?a_is_height ?l_is_height ?c_is_height ?k_is_height ?a_is_name ?l_is_name ?c_is_name ?k_is_name ?a__law_cell ?l__law_cell ?c__law_cell ?k__law_cell ?a__law_box ?l__law_box ?c__law_box ?k__law_box ?a__law_take ?l__law_take ?c__law_take ?k__law_take ?a__law_named ?l__law_named ?c__law_named ?k__law_named ?a_law ?l_law ?c_law ?k_law ?z_isinstance ?z_int ?z_bool ?z_str ?z_len ?z_max ?z_min ?z_repr ?z_range ?g_MOST_HEIGHT
    (case a_is_height => k_is)
    (case l_is_height => k_is)
    (case c_is_height => k_is)
    (case k_is_height => k_is)
    (case a_is_name => k_is)
    (case l_is_name => k_is)
    (case c_is_name => k_is)
    (case k_is_name => k_is)
    (case a__law_cell => k_is)
    (case l__law_cell => k_is)
    (case c__law_cell => k_is)
    (case k__law_cell => k_is)
    (case a__law_box => k_is)
    (case l__law_box => k_is)
    (case c__law_box => k_is)
    (case k__law_box => k_is)
    (case a__law_take => k_is)
    (case l__law_take => k_is)
    (case c__law_take => k_is)
    (case k__law_take => k_is)
    (case a__law_named => k_is)
    (case l__law_named => k_is)
    (case c__law_named => k_is)
    (case k__law_named => k_is)
    (case a_law => k_is)
    (case l_law => k_is)
    (case c_law => k_is)
    (case k_law => k_is)
    (case z_isinstance => k_is)
    (case z_int => k_is)
    (case z_bool => k_is)
    (case z_str => k_is)
    (case z_len => k_is)
    (case z_max => k_is)
    (case z_min => k_is)
    (case z_repr => k_is)
    (case z_range => k_is)
    (case g_MOST_HEIGHT => k_is)
#print axioms PySem.Challenge.cw_surehollows_k01_heights_and_names_holds

