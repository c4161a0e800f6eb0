import PyProof.Rows.All
import Wide.All
import OpenK.AllK
import Wide.FinOn
import HandS.ForMost
import HandS.Wide
import HandS.IsInst
import HandS.StrMore
import HandS.Flow
import HandS.Style
import HandS.RaiseMore
import HandS.More
import HandS.Evl
import HandS.Defaults
import HandS.Walk
import HandS.MakeKwOnly
import HandS.ForExc
import HandS.ExcInit
import KE.KExcSuper
import HandS.TryMany
import HandS.ExcField
import HandS.ClsMeth
import HandS.Property
import HandS.CallSlots
import PyProof.ReprRoads
import KE.KUnpack
import PyProof.RulesMatchSeq
import PyProof.Rows.MatchSeqLen
import HandS.Codes
import KE.IntTextLaws
import HandS.FStr
import HandS.NoneIn
import KE.KCallOwn
import KE.RegKSuper
import PyProof.ReprBulk
import PySem.Challenge.RW_surehollows_k03_bounds_as_text
set_option Elab.async false
set_option linter.all false
set_option maxRecDepth 100000
set_option maxHeartbeats 4000000
/-! steps over the readings of the hand layer -/
namespace Vc
open PySem L2
section
variable {X : Cx}
/-! ### own rules by values -/
theorem call_repr_bl : CallR X (.builtin "repr") (fun xs H Q => ∃ b, xs = [.bl b] ∧ Q (.str (if b then "True" else "False")) H) := by
  intro pins s σ H xs us Q I r h
  obtain ⟨b, rfl, q⟩ := h
  obtain ⟨u, rfl, r1⟩ := vals1 r
  cases (show u = Value.bool b from r1)
  exact PySem.P.repr_of_bool ⟨.str _, H, I.tok _, ⟨_, rfl⟩, q⟩
def rMulS : R2 := fun x y H Q => ∃ z n, x = .str z ∧ y = .int n ∧ -1000 ≤ n ∧ n ≤ 10000 ∧ z.length ≤ 1000 ∧ Q (.str (Txt.mul z n)) H
theorem op_mul_str : OpR X (binaryOp .Mult) rMulS := by
  intro pins s σ H x y a b Q I rx ry h
  obtain ⟨z, n, rfl, rfl, h1, h2, h3, q⟩ := h
  obtain ⟨t, rfl⟩ := (show ∃ t, a = Value.str z t from rx)
  obtain ⟨u, rfl⟩ := (show ∃ u, b = Value.int n u from ry)
  refine SB.mul ⟨?_, fun h4 _ => ?_, fun h4 _ => ?_⟩ fun t' k => ⟨.str _, H, I.tok _, ⟨_, rfl⟩, q⟩
  · simp only [Bool.or_eq_false_iff, decide_eq_false_iff_not]
    omega
  · have h5 : (100000 : Int) ≤ (2 ^ 63 - 1) / n := by
      apply Int.le_ediv_of_mul_le (by omega)
      omega
    omega
  · have h6 : z.length * n.toNat ≤ 1000 * 10000 := Nat.mul_le_mul h3 (by omega)
    unfold Builtin.Str.tooLong
    have e : sizeLine = 16777216 := by decide
    rw [e]
    simp only [gt_iff_lt, decide_eq_false_iff_not]
    omega
/-- + of ints, of texts, of lists -/
def rAddU : R2 := fun x y H Q => rI0 (fun i j => .int (i + j)) x y H Q ∨ (∃ i j, x = .str i ∧ y = .str j ∧ i.length + j.length ≤ sizeLine ∧ Q (.str (i ++ j)) H) ∨ rCat x y H Q
theorem op_addU : OpR X (binaryOp .Add) rAddU := OpR.or op_add (OpR.or op_add_str op_cat)
/-- * of ints, of texts, of lists by an int -/
def rMulU : R2 := fun x y H Q => rI CMul (fun i j => .int (i * j)) x y H Q ∨ rMulS x y H Q ∨ rRep x y H Q
theorem op_mulU : OpR X (binaryOp .Mult) rMulU := OpR.or op_mul (OpR.or op_mul_str op_rep)
end
/-- == of scalars, of data at any depth -/
def rEqU (K : PySem.W.Frag) : R2 := fun x y H Q => rEq x y H Q ∨ rEqD K x y H Q
def rNeU (K : PySem.W.Frag) : R2 := fun x y H Q => rNe x y H Q ∨ rNeD K x y H Q
section
variable {X : Cx} {k : Nat}
theorem op_eqU (K : PySem.W.Frag) (hr : Room k X.A) (hK : X.K = K := by rfl) : OpR X (compareOp .Eq) (rEqU K) := hK ▸ OpR.or op_eq (op_eqD hr.units)
theorem op_neU (K : PySem.W.Frag) (hr : Room k X.A) (hK : X.K = K := by rfl) : OpR X (compareOp .NotEq) (rNeU K) := hK ▸ OpR.or op_ne (op_neD hr.units)
def rSlU (K : PySem.W.Frag) : V → Option Int → Option Int → Hp → VK → Prop := fun x lo hi H Q => rSlS x lo hi H Q ∨ rSlL K x lo hi H Q
theorem sl_U (K : PySem.W.Frag) (hK : X.K = K := by rfl) : SlR X (rSlU K) := hK ▸ SlR.or sl_str sl_list
end
section
variable {X : Cx}
def rLenU (K : PySem.W.Frag) : List V → Hp → VK → Prop := fun xs H Q => (∃ p ys, xs = [.ref p] ∧ (SqL K H p ys ∨ SqT K H p ys) ∧ Q (.int ys.length) H) ∨ (∃ z, xs = [.str z] ∧ z.length ≤ sizeLine ∧ Q (.int z.length) H) ∨ (∃ a kvs, xs = [V.ref a] ∧ H a = some (.dK kvs) ∧ Q (.int kvs.length) H)
theorem ix_U (K : PySem.W.Frag) (hK : X.K = K := by rfl) : IxR X (rIx K) := hK ▸ ix_seq
theorem pi_listK (K : PySem.W.Frag) {tg l : Expr} {tl : TE} (h : PE X l tl) (hK : X.K = K := by rfl) : PI X tg l (iList K tl) := hK ▸ pi_list h
theorem pg_K (K : PySem.W.Frag) {e : Expr} {n : Nat} {t : TGs} (h : PG X e (gTup X.K n t)) (hK : X.K = K := by rfl) : PG X e (gTup K n t) := hK ▸ h
theorem pe_bm0K (K : PySem.W.Frag) {T : String} {id : String} {name : Str} {o : Expr} {apos cpos : Pos} {r : V → List V → Hp → VK → Prop} {to : TE} (h : PE X (.Call (.Attribute o name apos) [] [] cpos) (tBM0 X.K T r to)) (hK : X.K = K := by rfl) : PE X (.Call (.Attribute o name apos) [] [] cpos) (tBM0 K T r to) := hK ▸ h
theorem pe_bmK (K : PySem.W.Frag) {T : String} {name : Str} {o : Expr} {es : List Expr} {apos cpos : Pos} {r : V → List V → Hp → VK → Prop} {to : TE} {t : TA} (h : PE X (.Call (.Attribute o name apos) es [] cpos) (tBM X.K T r to t)) (hK : X.K = K := by rfl) : PE X (.Call (.Attribute o name apos) es [] cpos) (tBM K T r to t) := hK ▸ h
def rJoin (K : PySem.W.Frag) : V → List V → Hp → VK → Prop := fun x xs H Q => ∃ a p, ∃ ys : List Str, x = .str a ∧ xs = [.ref p] ∧ (SqL K H p (ys.map V.str) ∨ SqT K H p (ys.map V.str)) ∧ (ys.map (·.length)).sum + ys.length * a.length ≤ 16777216 ∧ Q (.str (Txt.join a ys)) H
theorem mt_joinK (K : PySem.W.Frag) (hK : X.K = K := by rfl) : MtR X "str.join" (rJoin K) := hK ▸ mt_join
theorem call_lenU (K : PySem.W.Frag) (hK : X.K = K := by rfl) : CallR X (.builtin "len") (rLenU K) := hK ▸ CallR.or call_len_seq (CallR.or call_len_str call_lenD)
def rMaxU (K : PySem.W.Frag) : List V → Hp → VK → Prop := fun xs H Q => (∃ i j, xs = [.int i, .int j] ∧ Q (.int (if j > i then j else i)) H) ∨ rMax K xs H Q
theorem call_maxU (K : PySem.W.Frag) (hc : X.calm = true) (hK : X.K = K := by rfl) : CallR X (.builtin "max") (rMaxU K) := hK ▸ CallR.or (call_max2 hc) (cr_max hc)
def rMinU (K : PySem.W.Frag) : List V → Hp → VK → Prop := fun xs H Q => (∃ i j, xs = [.int i, .int j] ∧ Q (.int (if j < i then j else i)) H) ∨ rMin K xs H Q
theorem call_minU (K : PySem.W.Frag) (hc : X.calm = true) (hK : X.K = K := by rfl) : CallR X (.builtin "min") (rMinU K) := hK ▸ CallR.or (call_min2 hc) (cr_min hc)
def rReprU : List V → Hp → VK → Prop := fun xs H Q => (∃ b, xs = [.bl b] ∧ Q (.str (if b then "True" else "False")) H) ∨ (∃ i, xs = [.int i] ∧ i.natAbs.log2 < 1920 ∧ Q (.str (toString i)) H)
theorem call_reprU : CallR X (.builtin "repr") rReprU := CallR.or call_repr_bl SkE.call_repr_int
def rIsiU (K : PySem.W.Frag) : List V → Hp → VK → Prop := fun xs H Q => rIsi K xs H Q ∨ rIsiT K xs H Q
theorem call_isiU (K : PySem.W.Frag) (hK : X.K = K := by rfl) : CallR X (.builtin "isinstance") (rIsiU K) := hK ▸ CallR.or call_isi call_isiT
def rIntU : List V → Hp → VK → Prop := fun xs H Q => ((∃ i, xs = [.int i] ∧ Q (.int i) H) ∨ ∃ k, xs = [.bl k] ∧ Q (.int (if k then 1 else 0)) H) ∨ (∃ a n, xs = [.str a] ∧ PySem.intText? a = some n ∧ a.length ≤ 640 ∧ Q (.int n) H)
theorem call_intU : CallR X (.type "int") rIntU := CallR.or call_int1 call_int_str
def rStrU : List V → Hp → VK → Prop := fun xs H Q => (∃ i, xs = [.int i] ∧ i.natAbs.log2 < 1920 ∧ Q (.str (toString i)) H) ∨ (∃ a, xs = [.str a] ∧ Q (.str a) H)
theorem call_strU : CallR X (.type "str") rStrU := CallR.or call_str_int SkE.call_str_str
def rLtU : R2 := fun x y H Q => rI0 (fun i j => .bl (decide (i < j))) x y H Q ∨ (∃ i j, x = .str i ∧ y = .str j ∧ Q (.bl (decide (i.cps.toList < j.cps.toList))) H)
theorem op_ltU : OpR X (compareOp .Lt) rLtU := OpR.or op_lt op_lt_str
def rLeU : R2 := rI0 (fun i j => .bl (decide (i ≤ j)))
theorem op_leU : OpR X (compareOp .LtE) rLeU := op_le
def rGtU : R2 := rI0 (fun i j => .bl (decide (j < i)))
theorem op_gtU : OpR X (compareOp .Gt) rGtU := op_gt
def rGeU : R2 := rI0 (fun i j => .bl (decide (j ≤ i)))
theorem op_geU : OpR X (compareOp .GtE) rGeU := op_ge
def rInS1 : R2 := fun x y H Q => ∃ c z, x = .str ⟨#[c]⟩ ∧ y = .str z ∧ Q (.bl (decide (c ∈ z.cps.toList))) H
def rNotInS1 : R2 := fun x y H Q => ∃ c z, x = .str ⟨#[c]⟩ ∧ y = .str z ∧ Q (.bl (!decide (c ∈ z.cps.toList))) H
theorem op_inS1 : OpR X (compareOp .In) rInS1 := op_in_sign
theorem op_notInS1 : OpR X (compareOp .NotIn) rNotInS1 := op_notIn_sign
def rInU (K : PySem.W.Frag) : R2 := fun x y H Q => rInS1 x y H Q ∨ rIn K false x y H Q
def rNotInU (K : PySem.W.Frag) : R2 := fun x y H Q => rNotInS1 x y H Q ∨ rIn K true x y H Q
theorem op_inU (K : PySem.W.Frag) (hK : X.K = K := by rfl) : OpR X (compareOp .In) (rInU K) := hK ▸ OpR.or op_inS1 op_in_seq
theorem op_notInU (K : PySem.W.Frag) (hK : X.K = K := by rfl) : OpR X (compareOp .NotIn) (rNotInU K) := hK ▸ OpR.or op_notInS1 op_notIn_seq
end
/-! ### a def of the text, as others call it -/
section
variable {P : Program} {w : World} {K : PySem.W.Frag} {mg : Str → Option Value} {base : Heap}
def FnG (P : Program) (w : World) (K : PySem.W.Frag) (mg : Str → Option Value) (base : Heap) (CX : CXT) (k : Nat) (x : Str) (ps : List Str) (sp : Sp) : Prop :=
  ∃ (f : Addr) (fd : FuncData), FnOk P w K mg base CX k f fd ps sp ∧ mg x = some (.ref f) ∧ PySem.W.keepIn K (.ref f) = true ∧ Binds K fd ps []
variable {X : Cx} {CX : CXT} {j k : Nat} {ps : List Str} {sp : Sp} {E : XK} {x : Str} {p pos : Pos} {e : Expr} {es : List Expr} {t : TA}
theorem pe_callG (F : FnG X.prog X.w X.K X.mg X.base CX k x ps sp) (hr : Room j X.A) (hk : k ≤ j) (hg : Gl X x) (hx : Passes CX X E)
    (ha : PA X (e :: es) t) (hdb : (x == ("__debug__" : Str)) = false := by decide) (he : starEach (e :: es) X.env = (false, eval e X.env) :: starEach es X.env := by rfl) (hpl : (backTo pos (starEach es X.env)).any (·.1) = false := by rfl) :
    PE X (.Call (.Name x p) (e :: es) [] pos) (tCall sp [] E t) := by
  obtain ⟨f, fd, F1, m, kp, b⟩ := F
  exact pe_call F1 (hr.mono hk) hg m kp b .nil hx ha hdb he hpl
theorem pe_callG0 (F : FnG X.prog X.w X.K X.mg X.base CX k x ps sp) (hr : Room j X.A) (hk : k ≤ j) (hg : Gl X x) (hx : Passes CX X E)
    (hdb : (x == ("__debug__" : Str)) = false := by decide) : PE X (.Call (.Name x p) [] [] pos) (tCall sp [] E tNil) := by
  obtain ⟨f, fd, F1, m, kp, b⟩ := F
  exact pe_call0 F1 (hr.mono hk) hg m kp b .nil hx hdb
/-- f(k = v, ..) -/
def FnGK (P : Program) (w : World) (K : PySem.W.Frag) (mg : Str → Option Value) (base : Heap) (CX : CXT) (k : Nat) (x : Str) (ps : List Str) (n : Nat) (ks : List Str) (g : List Value → List Value → List Value) (gV : List V → List V → List V) (sp : Sp) : Prop :=
  ∃ (f : Addr) (fd : FuncData), FnOk P w K mg base CX k f fd ps sp ∧ mg x = some (.ref f) ∧ PySem.W.keepIn K (.ref f) = true ∧ KBn K fd ps n ks g gV
def tCallKn (n m : Nat) (sp : Sp) (gV : List V → List V → List V) (E : XK) (t tk : TA) : TE := fun σ H Q => t σ H fun vs H1 => tk σ H1 fun zs H2 => vs.length = n ∧ zs.length = m ∧ sp (gV vs zs) H2 Q E
variable {ks : List Str} {g : List Value → List Value → List Value} {gV : List V → List V → List V} {kws : List Keyword} {tk : TA}
theorem pe_callGK0 (F : FnGK X.prog X.w X.K X.mg X.base CX k x ps 0 ks g gV sp) (hr : Room j X.A) (hk : k ≤ j) (hg : Gl X x) (hx : Passes CX X E) (hkw : PK X kws tk)
    (hall : (backToKw pos (keywordEach kws X.env)).all (·.1.isSome) = true := by rfl) (hks : (backToKw pos (keywordEach kws X.env)).filterMap (·.1) = ks := by rfl) (hdb : (x == ("__debug__" : Str)) = false := by decide)
    (hpl : ((backTo pos (starEach [] X.env)).any (·.1) || (backToKw pos (keywordEach kws X.env)).any (·.1.isNone)) = false := by rfl) :
    PE X (.Call (.Name x p) [] kws pos) (tCallKn 0 ks.length sp gV E tNil tk) := by
  obtain ⟨f, fd, F1, m, kp, b⟩ := F
  refine ⟨fun pins s σ H Q I h => ?_⟩
  refine wpAny_Call_Name_kw (ld_glob I hg m ?_ hdb)
  refine PySem.W.callWith_KW0 (h₀ := X.base) I.ok.mod.kin kp hall ?_ hpl
  refine thn (hkw.run pos pins s σ H _ I h) fun ws s2 ⟨zs, H2, I2, rz, l1, l2, q2⟩ => ⟨I2.kIn, ?_⟩
  rw [hks]
  have r2 := b.rel (vs := []) (us := []) .nil rz
  have e2 : ws.length = ks.length := by rw [← rz.length]; exact l2
  refine wpAny_call (codeAny_mono (F1.run X.A X.stack s2 H2 ⟨[], ks.zip ws⟩ (g [] ws) (gV [] zs) Q E (hr.mono hk) I2.env0 (b.to s2 [] ws I2.kIn rfl e2) r2 q2) fun r s' hq => ?_)
  cases r with
  | error e => exact hx pins σ H2 s2 e s' I2 hq
  | ok fl =>
    cases fl with
    | ret u => exact I2.after hq
    | next => exact False.elim hq
    | brk => exact False.elim hq
    | cont => exact False.elim hq
end
theorem szE : sizeLine = 16777216 := by decide
/-! ### steps -/
section
variable {K : PySem.W.Frag} {σ σ' : St} {H H' : Hp} {ta tb te tx : TE} {t u : TT} {x y z v : V} {D : Ends} {s1 s2 : TS} {Q : VK} {QB : Bool → Hp → Prop} {r r' : R2}
theorem v_start {t : TS} (e : σ = σ') (h : t D σ' H) : t D σ H := by rw [e]; exact h
theorem v_seq (h : s1 { D with nx := s2 D } σ H) : tSeq s1 s2 D σ H := h
theorem v_ret (h : te σ H D.rt) : tRet te D σ H := h
theorem v_retN (h : D.rt .non H) : tRetN D σ H := h
theorem v_drop (h : te σ H fun _ H1 => D.nx σ H1) : tDrop te D σ H := h
theorem v_next (h : D.nx σ H) : tNext D σ H := h
theorem v_asg {g : TG} (h : te σ H fun x H1 => g x σ H1 D.nx) : tAsg te g D σ H := h
theorem v_name {i : Nat} {Qs : St → Hp → Prop} (e : σ.set i (some v) = σ') (h : Qs σ' H) : gName i v σ H Qs := by
  subst e
  exact h
theorem v_ifS {tt : TT} (h : tt σ H fun b H1 => if b = true then s1 D σ H1 else s2 D σ H1) : tIfS tt s1 s2 D σ H := h
theorem v_var {i : Nat} (e : σ[i]? = some (some v)) (h : Q v H) : tVar i σ H Q := ⟨v, e, h⟩
theorem v_c (h : Q v H) : tC v σ H Q := h
theorem v_op (h : ta σ H fun x H1 => tb σ H1 fun y H2 => r x y H2 Q) : tOp r ta tb σ H Q := h
theorem v_un {r : V → Hp → VK → Prop} (h : ta σ H fun x H1 => r x H1 Q) : tUn r ta σ H Q := h
theorem v_chain (h : ta σ H fun x H1 => tb σ H1 fun y H2 => r x y H2 fun z H3 => ∃ k, z = .bl k ∧ (if k = true then tx σ H3 fun w' H4 => r' y w' H4 Q else Q (.bl false) H3)) : tChain r r' ta tb tx σ H Q := h
theorem v_test (h : te σ H fun x H' => ∃ k, x = .bl k ∧ QB k H') : tTest te σ H QB := h
theorem v_B (h : te σ H fun x H' => ∃ k, x = .bl k ∧ QB k H') : tB te σ H QB := h
theorem v_and (h : t σ H fun c H1 => if c = true then u σ H1 QB else QB false H1) : tAnd t u σ H QB := h
theorem v_or (h : t σ H fun c H1 => if c = true then QB true H1 else u σ H1 QB) : tOr t u σ H QB := h
theorem v_not (h : t σ H fun c H1 => QB (!c) H1) : tNot t σ H QB := h
theorem v_andV (h : ta σ H fun x H1 => ∃ c, x = .bl c ∧ if c = true then tb σ H1 Q else Q (.bl false) H1) : tAndV ta tb σ H Q := h
theorem v_orV (h : ta σ H fun x H1 => ∃ c, x = .bl c ∧ if c = true then Q (.bl true) H1 else tb σ H1 Q) : tOrV ta tb σ H Q := h
theorem v_notV (h : ta σ H fun x H1 => ∃ c, x = .bl c ∧ Q (.bl (!c)) H1) : tNotV ta σ H Q := h
theorem v_if (h : t σ H fun c H1 => if c = true then ta σ H1 Q else tb σ H1 Q) : tIf t ta tb σ H Q := h
theorem v_bl {b : Bool} (h : QB b H) : ∃ k, V.bl b = .bl k ∧ QB k H := ⟨b, rfl, h⟩
theorem v_blP {b : Bool} {P : Bool → Prop} (h : P b) : ∃ k, V.bl b = .bl k ∧ P k := ⟨b, rfl, h⟩
theorem v_cb {r : List V → Hp → VK → Prop} {t : TA} (h : t σ H fun vs H1 => r vs H1 Q) : tCB r t σ H Q := h
theorem v_call {sp : Sp} {dvs : List V} {E : XK} {t : TA} (h : t σ H fun vs H1 => sp (vs ++ dvs) H1 Q E) : tCall sp dvs E t σ H Q := h
theorem v_nil {QA : List V → Hp → Prop} (h : QA [] H) : tNil σ H QA := h
theorem v_cons {tr : TA} {QA : List V → Hp → Prop} (h : ta σ H fun x H1 => tr σ H1 fun xs H2 => QA (x :: xs) H2) : tCons ta tr σ H QA := h
theorem v_lst {t : TA} (h : t σ H fun xs H1 => xs.length ≤ sizeLine ∧ ∀ p, H1 p = none → Q (.ref p) (upd H1 p (.lst xs))) : tLst t σ H Q := h
theorem v_tup {t : TA} (h : t σ H fun xs H1 => xs.length ≤ sizeLine ∧ ∀ p, H1 p = none → Q (.ref p) (upd H1 p (.tup xs))) : tTup t σ H Q := h
theorem v_bm0 {T : String} {r : V → List V → Hp → VK → Prop} (h : te σ H fun x H1 => tyV K T x H1 ∧ r x [] H1 Q) : tBM0 K T r te σ H Q := h
theorem v_bm {T : String} {r : V → List V → Hp → VK → Prop} {t : TA} (h : te σ H fun x H1 => tyV K T x H1 ∧ t σ H1 fun xs H2 => r x xs H2 Q) : tBM K T r te t σ H Q := h
theorem v_m0 {r : V → List V → Hp → VK → Prop} (h : te σ H fun x H1 => (∃ a, x = .str a) ∧ r x [] H1 Q) : tM0 r te σ H Q := h
theorem v_m1 {r : V → List V → Hp → VK → Prop} (h : ta σ H fun x H1 => (∃ a, x = .str a) ∧ te σ H1 fun y H2 => r x [y] H2 Q) : tM1 r ta te σ H Q := h
theorem v_strAnd {z : Str} {P : Prop} (h : P) : (∃ a, V.str z = .str a) ∧ P := ⟨⟨z, rfl⟩, h⟩
theorem v_sm0 {z : Str} {P : Str → Prop} (h : P z) : ∃ a, V.str z = .str a ∧ ([] : List V) = [] ∧ True ∧ P a := ⟨z, rfl, rfl, trivial, h⟩
theorem v_sl {r : V → Option Int → Option Int → Hp → VK → Prop} {tl th : TO} (h : te σ H fun x H1 => tl σ H1 fun l H2 => th σ H2 fun w H3 => r x l w H3 Q) : tSl r te tl th σ H Q := h
theorem v_noPart {QO : Option Int → Hp → Prop} (h : QO none H) : tNoPart σ H QO := h
theorem v_part {QO : Option Int → Hp → Prop} (h : te σ H fun x H1 => ∃ i, x = .int i ∧ QO (some i) H1) : tPart te σ H QO := h
theorem v_int {i : Int} {P : Int → Prop} (h : P i) : ∃ k, V.int i = .int k ∧ P k := ⟨i, rfl, h⟩
theorem v_I0 {g : Int → Int → V} {i j : Int} (h : Q (g i j) H) : rI0 g (.int i) (.int j) H Q := ⟨i, j, rfl, rfl, h⟩
theorem v_I {C : Int → Int → Prop} {g : Int → Int → V} {i j : Int} (c : C i j) (h : Q (g i j) H) : rI C g (.int i) (.int j) H Q := ⟨i, j, rfl, rfl, c, h⟩
theorem v_div {i j : Int} (c0 : 0 < j) (c1 : j ≤ 1000000000000) (h : Q (.int (i / j)) H) : rI CDivW (fun i j => .int (i / j)) (.int i) (.int j) H Q := ⟨i, j, rfl, rfl, wide_div (b := 50) c0 (by omega) (by decide) (by decide), h⟩
theorem v_mod {i j : Int} (c0 : 0 < j) (h : Q (.int (i % j)) H) : rI (fun _ j => 0 < j) (fun i j => .int (i % j)) (.int i) (.int j) H Q := ⟨i, j, rfl, rfl, c0, h⟩
theorem v_pow {i j : Int} (c0 : 0 ≤ j) (c1 : j ≤ 1000000) (c2 : i.natAbs < 2 ^ 64) (h : Q (.int (i ^ j.toNat)) H) : rI CPow (fun i j => .int (i ^ j.toNat)) (.int i) (.int j) H Q := ⟨i, j, rfl, rfl, ⟨c0, c1, c2⟩, h⟩
theorem v_powc {i j z : Int} (c0 : 0 ≤ j) (c1 : j ≤ 1000000) (c2 : i.natAbs < 2 ^ 64) (e : i ^ j.toNat = z) (h : Q (.int z) H) : rI CPow (fun i j => .int (i ^ j.toNat)) (.int i) (.int j) H Q := ⟨i, j, rfl, rfl, ⟨c0, c1, c2⟩, by show Q (.int (i ^ j.toNat)) H; rw [e]; exact h⟩
theorem v_U {g : Int → V} {i : Int} (h : Q (g i) H) : rU g (.int i) H Q := ⟨i, rfl, h⟩
theorem v_addI {i j : Int} (h : Q (.int (i + j)) H) : rAddU (.int i) (.int j) H Q := .inl ⟨i, j, rfl, rfl, h⟩
theorem v_addS {i j : Str} (c : i.length + j.length ≤ sizeLine) (h : Q (.str (i ++ j)) H) : rAddU (.str i) (.str j) H Q := .inr (.inl ⟨i, j, rfl, rfl, c, h⟩)
theorem v_addL {l b : Addr} {xs zs : List V} (h1 : H l = some (.lst xs)) (h2 : H b = some (.lst zs)) (c : xs.length + zs.length ≤ sizeLine) (h : ∀ p, H p = none → Q (.ref p) (upd H p (.lst (xs ++ zs)))) : rAddU (.ref l) (.ref b) H Q := .inr (.inr ⟨l, b, xs, zs, rfl, rfl, h1, h2, c, h⟩)
theorem v_mulI {i j : Int} (c : CMul i j) (h : Q (.int (i * j)) H) : rMulU (.int i) (.int j) H Q := .inl ⟨i, j, rfl, rfl, c, h⟩
theorem v_mulS {z : Str} {n : Int} (c1 : -1000 ≤ n) (c2 : n ≤ 10000) (c3 : z.length ≤ 1000) (h : Q (.str (Txt.mul z n)) H) : rMulU (.str z) (.int n) H Q := .inr (.inl ⟨z, n, rfl, rfl, c1, c2, c3, h⟩)
theorem v_eq (s : scal x y = true) (h : Q (.bl (decide (x = y))) H) : rEq x y H Q := ⟨s, h⟩
theorem v_ne (s : scal x y = true) (h : Q (.bl (!decide (x = y))) H) : rNe x y H Q := ⟨s, h⟩
theorem v_ixL {p : Addr} {xs : List V} {i : Int} (h1 : SqL K H p xs) (h2 : atI xs i = some v) (h : Q v H) : rIx K (.ref p) (.int i) H Q := .inl ⟨p, xs, i, v, rfl, rfl, h1, h2, h⟩
theorem v_ixT {p : Addr} {xs : List V} {i : Int} (h1 : SqT K H p xs) (h2 : atI xs i = some v) (h : Q v H) : rIx K (.ref p) (.int i) H Q := .inr (.inl ⟨p, xs, i, v, rfl, rfl, h1, h2, h⟩)
theorem v_ixS {w : Str} {i : Int} {c : Nat} (h1 : w.length ≤ sizeLine) (h2 : atI w.cps.toList i = some c) (h : Q (.str ⟨#[c]⟩) H) : rIx K (.str w) (.int i) H Q := .inr (.inr ⟨w, i, c, rfl, rfl, h1, h2, h⟩)
theorem v_eqU (s : scal x y = true) (h : Q (.bl (decide (x = y))) H) : rEqU K x y H Q := .inl ⟨s, h⟩
theorem v_neU (s : scal x y = true) (h : Q (.bl (!decide (x = y))) H) : rNeU K x y H Q := .inl ⟨s, h⟩
theorem v_eqD {d e : PyData} (h1 : Dp K H x d) (h2 : Dp K H y e) (s1 : SeqAt.shaped d = true) (s2 : SeqAt.shaped e = true) (h : Q (.bl (PyData.eqv d e)) H) : rEqU K x y H Q := .inr ⟨d, e, h1, h2, s1, s2, h⟩
theorem v_neD {d e : PyData} (h1 : Dp K H x d) (h2 : Dp K H y e) (s1 : SeqAt.shaped d = true) (s2 : SeqAt.shaped e = true) (h : Q (.bl (!PyData.eqv d e)) H) : rNeU K x y H Q := .inr ⟨d, e, h1, h2, s1, s2, h⟩
theorem v_slS {w : Str} {lo hi : Option Int} (c : w.length ≤ sizeLine) (h : Q (.str (cutS w lo hi)) H) : rSlU K (.str w) lo hi H Q := .inl ⟨w, rfl, c, h⟩
theorem v_slL {p : Addr} {xs : List V} {lo hi : Option Int} (c : SqL K H p xs) (h : ∀ q, H q = none → Q (.ref q) (upd H q (.lst (cutV xs lo hi)))) : rSlU K (.ref p) lo hi H Q := .inr ⟨p, xs, rfl, c, h⟩
theorem v_leU {i j : Int} (h : Q (.bl (decide (i ≤ j))) H) : rLeU (.int i) (.int j) H Q := ⟨i, j, rfl, rfl, h⟩
theorem v_geU {i j : Int} (h : Q (.bl (decide (j ≤ i))) H) : rGeU (.int i) (.int j) H Q := ⟨i, j, rfl, rfl, h⟩
theorem v_gtU {i j : Int} (h : Q (.bl (decide (j < i))) H) : rGtU (.int i) (.int j) H Q := ⟨i, j, rfl, rfl, h⟩
theorem v_ltU {i j : Int} (h : Q (.bl (decide (i < j))) H) : rLtU (.int i) (.int j) H Q := .inl ⟨i, j, rfl, rfl, h⟩
theorem v_ltS {i j : Str} (h : Q (.bl (decide (i.cps.toList < j.cps.toList))) H) : rLtU (.str i) (.str j) H Q := .inr ⟨i, j, rfl, rfl, h⟩
theorem v_lenS {w : Str} (c : w.length ≤ sizeLine) (h : Q (.int w.length) H) : rLenU K [.str w] H Q := .inr (.inl ⟨w, rfl, c, h⟩)
theorem v_lenL {p : Addr} {xs : List V} (c : SqL K H p xs) (h : Q (.int xs.length) H) : rLenU K [.ref p] H Q := .inl ⟨p, xs, rfl, .inl c, h⟩
theorem v_lenT {p : Addr} {xs : List V} (c : SqT K H p xs) (h : Q (.int xs.length) H) : rLenU K [.ref p] H Q := .inl ⟨p, xs, rfl, .inr c, h⟩
theorem v_lenD {p : Addr} {kvs : List (Key × V)} (c : H p = some (.dK kvs)) (h : Q (.int kvs.length) H) : rLenU K [.ref p] H Q := .inr (.inr ⟨p, kvs, rfl, c, h⟩)
theorem v_max2 {i j : Int} (h : Q (.int (if j > i then j else i)) H) : rMaxU K [.int i, .int j] H Q := .inl ⟨i, j, rfl, h⟩
theorem v_min2 {i j : Int} (h : Q (.int (if j < i then j else i)) H) : rMinU K [.int i, .int j] H Q := .inl ⟨i, j, rfl, h⟩
theorem v_reprB {b : Bool} (h : Q (.str (if b then "True" else "False")) H) : rReprU [.bl b] H Q := .inl ⟨b, rfl, h⟩
theorem v_reprI {i : Int} (c : i.natAbs.log2 < 1920) (h : Q (.str (toString i)) H) : rReprU [.int i] H Q := .inr ⟨i, rfl, c, h⟩
theorem v_intI {i : Int} (h : Q (.int i) H) : rIntU [.int i] H Q := .inl (.inl ⟨i, rfl, h⟩)
theorem v_intB {b : Bool} (h : Q (.int (if b then 1 else 0)) H) : rIntU [.bl b] H Q := .inl (.inr ⟨b, rfl, h⟩)
theorem v_strI {i : Int} (c : i.natAbs.log2 < 1920) (h : Q (.str (toString i)) H) : rStrU [.int i] H Q := .inl ⟨i, rfl, c, h⟩
theorem v_strS {w : Str} (h : Q (.str w) H) : rStrU [.str w] H Q := .inr ⟨w, rfl, h⟩
theorem v_isi {c : V} {t u : Value} {b : Bool} (h1 : ClsV c u) (h2 : TyX K H x t) (h3 : PySem.W.kitOne K t u = some b) (h : Q (.bl b) H) : rIsiU K [x, c] H Q := .inl ⟨x, c, t, u, b, rfl, h1, h2, h3, h⟩
theorem v_inS {c : Nat} {w : Str} (h : Q (.bl (decide (c ∈ w.cps.toList))) H) : rInU K (.str ⟨#[c]⟩) (.str w) H Q := .inl ⟨c, w, rfl, rfl, h⟩
theorem v_notInS {c : Nat} {w : Str} (h : Q (.bl (!decide (c ∈ w.cps.toList))) H) : rNotInU K (.str ⟨#[c]⟩) (.str w) H Q := .inl ⟨c, w, rfl, rfl, h⟩
theorem v_inL {p : Addr} {xs : List V} (c : SqL K H p xs) (f1 : flatV x = true) (f2 : xs.all flatV = true) (h : Q (.bl (inV x xs)) H) : rInU K x (.ref p) H Q := .inr ⟨p, xs, rfl, .inl c, f1, f2, h⟩
theorem v_notInL {p : Addr} {xs : List V} (c : SqL K H p xs) (f1 : flatV x = true) (f2 : xs.all flatV = true) (h : Q (.bl (!inV x xs)) H) : rNotInU K x (.ref p) H Q := .inr ⟨p, xs, rfl, .inl c, f1, f2, h⟩
theorem v_inT {p : Addr} {xs : List V} (c : SqT K H p xs) (f1 : flatV x = true) (f2 : xs.all flatV = true) (h : Q (.bl (inV x xs)) H) : rInU K x (.ref p) H Q := .inr ⟨p, xs, rfl, .inr c, f1, f2, h⟩
theorem v_par {i j : Nat} {ta : TA} (h : ta σ H fun vs H1 => ∃ v w, vs = [v, w] ∧ D.nx ((σ.set i (some v)).set j (some w)) H1) : tPar i j ta D σ H := h
theorem v_two {v w : V} {P : V → V → Prop} (h : P v w) : ∃ a b, [v, w] = [a, b] ∧ P a b := ⟨v, w, rfl, h⟩
theorem v_twoS {i j : Nat} {v w : V} {Qs : St → Hp → Prop} (e : (σ.set i (some v)).set j (some w) = σ') (h : Qs σ' H) : ∃ a b, [v, w] = [a, b] ∧ Qs ((σ.set i (some a)).set j (some b)) H := ⟨v, w, rfl, by rw [e]; exact h⟩
theorem v_sets {Qs : St → Hp → Prop} (e : σ = σ') (h : Qs σ' H) : Qs σ H := by rw [e]; exact h
theorem v_callKn {n m : Nat} {sp : Sp} {gV : List V → List V → List V} {E : XK} {t tk : TA} (h : t σ H fun vs H1 => tk σ H1 fun zs H2 => vs.length = n ∧ zs.length = m ∧ sp (gV vs zs) H2 Q E) : tCallKn n m sp gV E t tk σ H Q := h
theorem v_gSub {ti : TE} {rs : TSet} {Qs : St → Hp → Prop} (h : ta σ H fun o H1 => ti σ H1 fun i H2 => rs o i v H2 fun H3 => Qs σ H3) : gSub ta ti rs v σ H Qs := h
theorem v_setL {p : Addr} {xs : List V} {k : Int} {j : Nat} {Qs : Hp → Prop} (h1 : H p = some (.lst xs)) (h2 : ixN xs.length k = some j) (h : Qs (upd H p (.lst (xs.set j v)))) : rSetL (.ref p) (.int k) v H Qs := ⟨p, xs, k, j, rfl, rfl, h1, h2, h⟩
theorem v_disp {trs : List (TE × TE)} (h : ∀ p, H p = none → tPairs trs σ (upd H p (.dK [])) fun ps H2 => H2 p = some (.dK []) ∧ ∃ kvs : List (Key × V), ps = kvs.map (fun kv => (kV kv.1, kv.2)) ∧ kvs.length ≤ 15 ∧ Q (.ref p) (upd H2 p (.dK (mergeK [] kvs)))) : tDisp trs σ H Q := h
theorem v_pnil {QP : List (V × V) → Hp → Prop} (h : QP [] H) : tPairs [] σ H QP := h
theorem v_pcons {r : List (TE × TE)} {QP : List (V × V) → Hp → Prop} (h : ta σ H fun x H1 => tb σ H1 fun y H2 => tPairs r σ H2 fun ps H3 => QP ((x, y) :: ps) H3) : tPairs ((ta, tb) :: r) σ H QP := h
/-! tests -/
theorem v_iteB {b : Bool} {A B : Prop} (h1 : b = true → A) (h2 : b = false → B) : if b = true then A else B := by
  cases b with
  | true => exact h1 rfl
  | false => exact h2 rfl
theorem v_iteD {c A B : Prop} [Decidable c] (h1 : c → A) (h2 : ¬ c → B) : if decide c = true then A else B := v_iteB (fun h => h1 (of_decide_eq_true h)) (fun h => h2 (of_decide_eq_false h))
theorem v_iteN {c A B : Prop} [Decidable c] (h1 : ¬ c → A) (h2 : c → B) : if (!decide c) = true then A else B := v_iteB (fun h => h1 (fun hc => by rw [decide_eq_true hc] at h; exact Bool.noConfusion h)) (fun h => h2 (Classical.byContradiction fun hc => by rw [decide_eq_false hc] at h; exact Bool.noConfusion h))
theorem v_iteDT {c A B : Prop} [Decidable c] (hc : c) (h : A) : if decide c = true then A else B := v_iteD (fun _ => h) (fun n => absurd hc n)
theorem v_iteDF {c A B : Prop} [Decidable c] (hc : ¬ c) (h : B) : if decide c = true then A else B := v_iteD (fun n => absurd n hc) (fun _ => h)
theorem v_iteNT {c A B : Prop} [Decidable c] (hc : ¬ c) (h : A) : if (!decide c) = true then A else B := v_iteN (fun _ => h) (fun n => absurd n hc)
theorem v_iteNF {c A B : Prop} [Decidable c] (hc : c) (h : B) : if (!decide c) = true then A else B := v_iteN (fun n => absurd hc n) (fun _ => h)
theorem v_iteT {A B : Prop} (h : A) : if true = true then A else B := by rw [if_pos rfl]; exact h
theorem v_iteF {A B : Prop} (h : B) : if false = true then A else B := by rw [if_neg Bool.false_ne_true]; exact h
theorem v_iteFt {A B : Prop} (h : A) : if (!false) = true then A else B := by rw [if_pos (show (!false) = true from rfl)]; exact h
theorem v_iteTf {A B : Prop} (h : B) : if (!true) = true then A else B := by rw [if_neg (show ¬ (!true) = true from by decide)]; exact h
theorem v_iteBT {b : Bool} {A B : Prop} (e : b = true) (h : A) : if b = true then A else B := by rw [if_pos e]; exact h
theorem v_iteBF {b : Bool} {A B : Prop} (e : b = false) (h : B) : if b = true then A else B := by rw [e]; exact v_iteF h
theorem v_iteE {b c : Bool} {A B : Prop} (e : b = c) (h : if c = true then A else B) : if b = true then A else B := by rw [e]; exact h
/-! loops -/
/-- what a for asks of what it walks -/
def ForW (g : TG) (tb : TS) (D : Ends) (σ : St) (J : It) (H1 : Hp) : Prop := ∃ W : Nat → Nat → St → Hp → Prop, (∃ m, W 0 m σ H1) ∧ ∀ i m σ H, W i m σ H →
  (J.stop i H ∧ D.nx σ H) ∨ (J.go i H ∧ ∃ N : St → Hp → Prop, (∀ σ' H', N σ' H' → ∃ m', m' < m ∧ W (i + 1) m' σ' H') ∧ ∀ x H', J.yld i H x H' → g x σ H' fun σ2 H2 => tb { D with nx := N, ct := N, bk := D.nx } σ2 H2)
theorem v_for {wi : TI} {g : TG} (h : wi σ H fun J H1 => ForW g s1 D σ J H1) : tFor wi g s1 D σ H := h
def LcW (g : TG) (tt : TT) (te : TE) (vs : List Nat) (σ : St) (Q : VK) (J : It) (H1 : Hp) : Prop := ∀ D, H1 D = none → ∃ W : Nat → Nat → Hp → Prop, (∃ m, W 0 m (upd H1 D (.lst []))) ∧ ∀ i m H, W i m H →
  (J.stop i H ∧ Q (.ref D) H) ∨ (J.go i H ∧ ∃ Nx : Hp → Prop, (∀ H', Nx H' → ∃ m', m' < m ∧ W (i + 1) m' H') ∧ ∀ x H', J.yld i H x H' → g x (wipe σ vs) H' fun σ2 H2 => wipe σ2 vs = wipe σ vs ∧ tt σ2 H2 fun b H3 =>
    if b = true then te σ2 H3 fun y H4 => ∃ acc, H4 D = some (.lst acc) ∧ acc.length < sizeLine ∧ Nx (upd H4 D (.lst (acc ++ [y]))) else Nx H3)
theorem v_lc {wi : TI} {g : TG} {vs : List Nat} (h : wi σ H fun J H1 => LcW g t te vs σ Q J H1) : tLc wi g t te vs σ H Q := h
theorem v_iList {R : It → Hp → Prop} (h : te σ H fun x H1 => ∃ a, x = .ref a ∧ (∃ xs, SqL K H1 a xs) ∧ R (Itl K a) H1) : iList K te σ H R := h
theorem v_iRng1 {ta : TA} {R : It → Hp → Prop} (h : ta σ H fun vs H1 => ∃ j : Int, vs = [.int j] ∧ -(2 ^ 62) ≤ j ∧ j < 2 ^ 62 ∧ R (Itr 0 j.toNat) H1) : iRng1 ta σ H R := h
theorem v_iRng2 {ta : TA} {R : It → Hp → Prop} (h : ta σ H fun vs H1 => ∃ i j : Int, vs = [.int i, .int j] ∧ (-(2 ^ 62) ≤ i ∧ i < 2 ^ 62 ∧ -(2 ^ 62) ≤ j ∧ j < 2 ^ 62) ∧ R (Itr i (j - i).toNat) H1) : iRng2 ta σ H R := h
theorem v_iStr {R : It → Hp → Prop} (h : te σ H fun v H1 => ∃ x, v = .str x ∧ R (Its x) H1) : iStr te σ H R := h
theorem e_forL {a : Addr} {xs : List V} {g : TG} (hx : SqL K H a xs) (Pv : Nat → St → Hp → Prop) (h0 : Pv 0 σ H) (hl : ∀ i σ H, i ≤ xs.length → Pv i σ H → SqL K H a xs)
    (hs : ∀ i x σ H, xs[i]? = some x → Pv i σ H → g x σ H fun σ2 H2 => s1 { D with nx := Pv (i + 1), ct := Pv (i + 1), bk := D.nx } σ2 H2) (hd : ∀ σ H, Pv xs.length σ H → D.nx σ H) :
    ∃ a', V.ref a = .ref a' ∧ (∃ xs, SqL K H a' xs) ∧ ForW g s1 D σ (Itl K a') H := ⟨a, rfl, ⟨xs, hx⟩, for_list Pv h0 hl hs hd⟩
theorem e_forR1 {n : Int} {g : TG} (hn : 0 ≤ n ∧ n ≤ 1000000) (Pv : Nat → St → Hp → Prop) (h0 : Pv 0 σ H)
    (hs : ∀ (i : Nat) σ H, (i : Int) < n → Pv i σ H → g (.int (i : Int)) σ H fun σ2 H2 => s1 { D with nx := Pv (i + 1), ct := Pv (i + 1), bk := D.nx } σ2 H2) (hd : ∀ σ H, Pv n.toNat σ H → D.nx σ H) :
    ∃ j : Int, [V.int n] = [.int j] ∧ -(2 ^ 62) ≤ j ∧ j < 2 ^ 62 ∧ ForW g s1 D σ (Itr 0 j.toNat) H := ⟨n, rfl, by omega, by omega, for_range Pv h0 (fun i σ H hi p => by
      have := hs i σ H (by omega) p
      rw [Int.zero_add]
      exact this) hd⟩
theorem e_forR2 {lo n : Int} {g : TG} (hn : 0 ≤ lo ∧ lo ≤ 1000000 ∧ -1000000 ≤ n ∧ n ≤ 1000000) (Pv : Nat → St → Hp → Prop) (h0 : Pv 0 σ H)
    (hs : ∀ (i : Nat) σ H, lo + (i : Int) < n → Pv i σ H → g (.int (lo + (i : Int))) σ H fun σ2 H2 => s1 { D with nx := Pv (i + 1), ct := Pv (i + 1), bk := D.nx } σ2 H2) (hd : ∀ σ H, Pv (n - lo).toNat σ H → D.nx σ H) :
    ∃ i j : Int, [V.int lo, V.int n] = [.int i, .int j] ∧ (-(2 ^ 62) ≤ i ∧ i < 2 ^ 62 ∧ -(2 ^ 62) ≤ j ∧ j < 2 ^ 62) ∧ ForW g s1 D σ (Itr i (j - i).toNat) H := ⟨lo, n, rfl, by omega, for_range Pv h0 (fun i σ H hi p => hs i σ H (by omega) p) hd⟩
theorem e_lcL {a : Addr} {xs : List V} {g : TG} {vs : List Nat} (hx : SqL K H a xs) (hh : ∀ Dl, H Dl = none → ∃ Pv : Nat → Hp → Prop, Pv 0 (upd H Dl (.lst [])) ∧ (∀ i H, i ≤ xs.length → Pv i H → SqL K H a xs) ∧
      (∀ i x H, xs[i]? = some x → Pv i H → g x (wipe σ vs) H fun σ2 H2 => wipe σ2 vs = wipe σ vs ∧ t σ2 H2 fun b H3 =>
        if b = true then te σ2 H3 fun y H4 => ∃ acc, H4 Dl = some (.lst acc) ∧ acc.length < sizeLine ∧ Pv (i + 1) (upd H4 Dl (.lst (acc ++ [y]))) else Pv (i + 1) H3) ∧ ∀ H, Pv xs.length H → Q (.ref Dl) H) :
    ∃ a', V.ref a = .ref a' ∧ (∃ xs, SqL K H a' xs) ∧ LcW g t te vs σ Q (Itl K a') H := ⟨a, rfl, ⟨xs, hx⟩, fun Dl hD => by
      obtain ⟨Pv, h0, hl, hs, hd⟩ := hh Dl hD
      exact lc_list Pv h0 hl hs hd⟩
theorem e_lcR1 {n : Int} {g : TG} {vs : List Nat} (hn : 0 ≤ n ∧ n ≤ 1000000) (hh : ∀ Dl, H Dl = none → ∃ Pv : Nat → Hp → Prop, Pv 0 (upd H Dl (.lst [])) ∧
      (∀ (i : Nat) H, (i : Int) < n → Pv i H → g (.int (i : Int)) (wipe σ vs) H fun σ2 H2 => wipe σ2 vs = wipe σ vs ∧ t σ2 H2 fun b H3 =>
        if b = true then te σ2 H3 fun y H4 => ∃ acc, H4 Dl = some (.lst acc) ∧ acc.length < sizeLine ∧ Pv (i + 1) (upd H4 Dl (.lst (acc ++ [y]))) else Pv (i + 1) H3) ∧ ∀ H, Pv n.toNat H → Q (.ref Dl) H) :
    ∃ j : Int, [V.int n] = [.int j] ∧ -(2 ^ 62) ≤ j ∧ j < 2 ^ 62 ∧ LcW g t te vs σ Q (Itr 0 j.toNat) H := ⟨n, rfl, by omega, by omega, fun Dl hD => by
      obtain ⟨Pv, h0, hs, hd⟩ := hh Dl hD
      exact lc_range Pv h0 (fun i H hi p => by
        have := hs i H (by omega) p
        rw [Int.zero_add]
        exact this) hd⟩
theorem e_lcS {x : Str} {g : TG} {vs : List Nat} (hh : ∀ Dl, H Dl = none → ∃ Pv : Nat → Hp → Prop, Pv 0 (upd H Dl (.lst [])) ∧
      (∀ (i : Nat) (c : Nat) H, x.cps[i]? = some c → Pv i H → g (.str ⟨#[c]⟩) (wipe σ vs) H fun σ2 H2 => wipe σ2 vs = wipe σ vs ∧ t σ2 H2 fun b H3 =>
        if b = true then te σ2 H3 fun y H4 => ∃ acc, H4 Dl = some (.lst acc) ∧ acc.length < sizeLine ∧ Pv (i + 1) (upd H4 Dl (.lst (acc ++ [y]))) else Pv (i + 1) H3) ∧ ∀ H, Pv x.cps.size H → Q (.ref Dl) H) :
    ∃ x', V.str x = .str x' ∧ LcW g t te vs σ Q (Its x') H := ⟨x, rfl, fun Dl hD => by
      obtain ⟨Pv, h0, hs, hd⟩ := hh Dl hD
      have w : Walk (Its x) x.cps.size (fun _ => True) (fun i H v H' => H' = H ∧ ∃ c, x.cps[i]? = some c ∧ v = .str ⟨#[c]⟩) := ⟨fun _ _ hi _ => hi, fun _ _ => Nat.le_refl _, fun _ _ _ _ _ _ y => y⟩
      exact lc_it w Pv h0 (fun _ _ _ _ => True.intro) (fun i v H H' hi p y => by
        obtain ⟨rfl, c, hc, rfl⟩ := y
        exact hs i c _ hc p) hd⟩
theorem wipe1 {j : Nat} {n : Str} : wipe σ (List.map (·.2) [(n, j)]) = σ.set j none := rfl
theorem wipe1s {j : Nat} {n : Str} {x : V} : (wipe σ (List.map (·.2) [(n, j)])).set j (some x) = σ.set j (some x) := by rw [wipe1, List.set_set]
theorem wipe1w {j : Nat} {n : Str} {x : V} : wipe (σ.set j (some x)) (List.map (·.2) [(n, j)]) = wipe σ (List.map (·.2) [(n, j)]) := by rw [wipe1, wipe1, List.set_set]
/-- comprehensions whose target is a name -/
theorem e_lcS1 {x : Str} {j : Nat} {n : Str} (hh : ∀ Dl, H Dl = none → ∃ Pv : Nat → Hp → Prop, Pv 0 (upd H Dl (.lst [])) ∧
      (∀ (i : Nat) (c : Nat) H, x.cps[i]? = some c → Pv i H → t (σ.set j (some (.str ⟨#[c]⟩))) H fun b H3 =>
        if b = true then te (σ.set j (some (.str ⟨#[c]⟩))) H3 fun y H4 => ∃ acc, H4 Dl = some (.lst acc) ∧ acc.length < sizeLine ∧ Pv (i + 1) (upd H4 Dl (.lst (acc ++ [y]))) else Pv (i + 1) H3) ∧ ∀ H, Pv x.cps.size H → Q (.ref Dl) H) :
    ∃ x', V.str x = .str x' ∧ LcW (gName j) t te (List.map (·.2) [(n, j)]) σ Q (Its x') H := e_lcS fun Dl hD => by
      obtain ⟨Pv, h0, hs, hd⟩ := hh Dl hD
      refine ⟨Pv, h0, fun i c H' hi p => ?_, hd⟩
      show (wipe ((wipe σ (List.map (·.2) [(n, j)])).set j (some (.str ⟨#[c]⟩))) _ = wipe σ (List.map (·.2) [(n, j)])) ∧ _
      rw [wipe1s]
      exact ⟨wipe1w, hs i c H' hi p⟩
theorem e_lcR11 {n : Int} {j : Nat} {nm : Str} (hn : 0 ≤ n ∧ n ≤ 1000000) (hh : ∀ Dl, H Dl = none → ∃ Pv : Nat → Hp → Prop, Pv 0 (upd H Dl (.lst [])) ∧
      (∀ (i : Nat) H, (i : Int) < n → Pv i H → t (σ.set j (some (.int (i : Int)))) H fun b H3 =>
        if b = true then te (σ.set j (some (.int (i : Int)))) H3 fun y H4 => ∃ acc, H4 Dl = some (.lst acc) ∧ acc.length < sizeLine ∧ Pv (i + 1) (upd H4 Dl (.lst (acc ++ [y]))) else Pv (i + 1) H3) ∧ ∀ H, Pv n.toNat H → Q (.ref Dl) H) :
    ∃ k : Int, [V.int n] = [.int k] ∧ -(2 ^ 62) ≤ k ∧ k < 2 ^ 62 ∧ LcW (gName j) t te (List.map (·.2) [(nm, j)]) σ Q (Itr 0 k.toNat) H := e_lcR1 hn fun Dl hD => by
      obtain ⟨Pv, h0, hs, hd⟩ := hh Dl hD
      refine ⟨Pv, h0, fun i H' hi p => ?_, hd⟩
      show (wipe ((wipe σ (List.map (·.2) [(nm, j)])).set j (some (.int (i : Int)))) _ = wipe σ (List.map (·.2) [(nm, j)])) ∧ _
      rw [wipe1s]
      exact ⟨wipe1w, hs i H' hi p⟩
theorem e_lcL1 {a : Addr} {xs : List V} {j : Nat} {nm : Str} (hx : SqL K H a xs) (hh : ∀ Dl, H Dl = none → ∃ Pv : Nat → Hp → Prop, Pv 0 (upd H Dl (.lst [])) ∧ (∀ i H, i ≤ xs.length → Pv i H → SqL K H a xs) ∧
      (∀ i x H, xs[i]? = some x → Pv i H → t (σ.set j (some x)) H fun b H3 =>
        if b = true then te (σ.set j (some x)) H3 fun y H4 => ∃ acc, H4 Dl = some (.lst acc) ∧ acc.length < sizeLine ∧ Pv (i + 1) (upd H4 Dl (.lst (acc ++ [y]))) else Pv (i + 1) H3) ∧ ∀ H, Pv xs.length H → Q (.ref Dl) H) :
    ∃ a', V.ref a = .ref a' ∧ (∃ xs, SqL K H a' xs) ∧ LcW (gName j) t te (List.map (·.2) [(nm, j)]) σ Q (Itl K a') H := e_lcL hx fun Dl hD => by
      obtain ⟨Pv, h0, hl, hs, hd⟩ := hh Dl hD
      refine ⟨Pv, h0, hl, fun i x H' hi p => ?_, hd⟩
      show (wipe ((wipe σ (List.map (·.2) [(nm, j)])).set j (some x)) _ = wipe σ (List.map (·.2) [(nm, j)])) ∧ _
      rw [wipe1s]
      exact ⟨wipe1w, hs i x H' hi p⟩
theorem v_yes (h : QB true H) : tYes σ H QB := h
end
/-! heaps -/
section
variable {K : PySem.W.Frag} {σ σ' : St} {H H' : Hp} {ta tb te tx : TE} {t u : TT} {x y z v : V} {D : Ends} {s1 s2 : TS} {Q : VK} {QB : Bool → Hp → Prop} {r r' : R2}
theorem h_new {p q : Addr} {o o' : HO} (hp : H p = none) (h : H q = some o') : upd H p o q = some o' := by
  rw [upd_ne (ne_of_none h hp)]
  exact h
theorem h_mut {p q : Addr} {o o' : HO} (hp : q ≠ p) (h : H q = some o') : upd H p o q = some o' := by
  rw [upd_ne hp]
  exact h
theorem h_free {p q : Addr} {o : HO} (hp : q ≠ p) (h : H q = none) : upd H p o q = none := by
  rw [upd_ne hp]
  exact h
/-- all but b stays -/
def But (b : Addr) (H H' : Hp) : Prop := ∀ a o, a ≠ b → H a = some o → H' a = some o
theorem But.refl (b : Addr) (H : Hp) : But b H H := fun _ _ _ h => h
theorem But.trans {b : Addr} {H H1 H2 : Hp} (a : But b H H1) (c : But b H1 H2) : But b H H2 := fun x o n h => c x o n (a x o n h)
theorem But.new {b p : Addr} {o : HO} {H H1 : Hp} (a : But b H H1) (hp : H1 p = none) : But b H (upd H1 p o) := fun x o n h => h_new hp (a x o n h)
theorem But.at {b : Addr} {o : HO} {H H1 : Hp} (a : But b H H1) : But b H (upd H1 b o) := fun x o n h => h_mut n (a x o n h)
theorem But.mut {b p : Addr} {o : HO} {H H1 : Hp} (a : But b H H1) (hp : H p = none) : But b H (upd H1 p o) := fun x o n h => h_mut (ne_of_none h hp) (a x o n h)
theorem But.seq {b a : Addr} {xs : List V} {H H' : Hp} (e : But b H H') (n : a ≠ b) (h : SqL K H a xs) : SqL K H' a xs := by
  rcases h with (h | ⟨o, h⟩) | h
  · exact .inl (.inl (e _ _ n h))
  · exact .inl (.inr ⟨o, e _ _ n h⟩)
  · exact .inr h
end
/-! ### data -/
theorem canLay_strs : ∀ {xs : List Str}, (∀ x ∈ xs, PyData.strOk x = true) → PyData.canLayAll0 (xs.map PyData.str) = true
  | [], _ => rfl
  | x :: xs, h => by
    show (PyData.canLay0 (.str x) && PyData.canLayAll0 (xs.map PyData.str)) = true
    rw [Bool.and_eq_true]
    exact ⟨h x List.mem_cons_self, canLay_strs fun y hy => h y (List.mem_cons_of_mem _ hy)⟩
theorem depth_strs : ∀ {xs : List Str}, PyData.depthAll (xs.map PyData.str) = 0
  | [] => rfl
  | x :: xs => by
    show max (PyData.depth (.str x)) (PyData.depthAll (xs.map PyData.str)) = 0
    rw [depth_strs]
    rfl
theorem shaped_strs {xs : List Str} (h : ∀ x ∈ xs, PyData.strOk x = true) : SeqAt.shaped (.list (xs.map PyData.str)) = true := by
  unfold SeqAt.shaped
  rw [Bool.and_eq_true]
  refine ⟨canLay_strs h, decide_eq_true ?_⟩
  show PyData.depthAll (xs.map PyData.str) + 1 ≤ 64
  rw [depth_strs]
  decide
theorem dp_strs {K : PySem.W.Frag} {H : Hp} : ∀ {xs : List Str}, DpAll K H (xs.map V.str) (xs.map PyData.str)
  | [] => .nil
  | x :: xs => .cons (.str x) dp_strs
theorem eqv_nil (ds : List PyData) : PyData.eqv (.list ds) (.list []) = ds.isEmpty := by
  show PyData.eqvAll ds [] = ds.isEmpty
  cases ds <;> rfl
theorem take_succ {α : Type} {l : List α} {i : Nat} {c : α} (h : l[i]? = some c) : l.take (i + 1) = l.take i ++ [c] := by
  rw [List.take_add_one, h]
  rfl
theorem But.seqN {K : PySem.W.Frag} {b a : Addr} {xs : List V} {H H' : Hp} (e : But b H H') (n : H b = none) (h : SqL K H a xs) : SqL K H' a xs := by
  rcases h with (h | ⟨o, h⟩) | h
  · exact .inl (.inl (e _ _ (ne_of_none h n) h))
  · exact .inl (.inr ⟨o, e _ _ (ne_of_none h n) h⟩)
  · exact .inr h
theorem But.of {b : Addr} {H H' : Hp} (e : Same H H') : But b H H' := fun a o _ h => e a o h
theorem But.get {b a : Addr} {o : HO} {H H' : Hp} (e : But b H H') (n : a ≠ b) (h : H a = some o) : H' a = some o := e a o n h
theorem atI_of {α : Type} {xs : List α} {i : Int} (h0 : 0 ≤ i) (h1 : i < xs.length) : ∃ (h : i.toNat < xs.length), atI xs i = some xs[i.toNat] := by
  have h : i.toNat < xs.length := by omega
  refine ⟨h, ?_⟩
  unfold atI ixN
  rw [if_pos h0, if_pos h1]
  show xs[i.toNat]? = _
  rw [List.getElem?_eq_getElem h]
theorem atI_strs {L : List Str} {i : Int} {P : Str → Prop} (h0 : 0 ≤ i) (h1 : i < L.length) (hP : ∀ s ∈ L, P s) : ∃ s, atI (L.map V.str) i = some (.str s) ∧ P s := by
  obtain ⟨h, e⟩ := atI_of (xs := L.map V.str) h0 (by rw [List.length_map]; exact h1)
  rw [List.length_map] at h
  refine ⟨L[i.toNat], ?_, hP _ (List.getElem_mem h)⟩
  rw [e, List.getElem_map]
theorem tl_eq {x : Str} {l : List Nat} (h : x.cps.toList = l) : x = ⟨l.toArray⟩ := by
  subst h
  cases x
  simp
theorem len_tl (x : Str) : x.length = x.cps.toList.length := Array.length_toList.symm
open TL in
theorem joinL_ones : ∀ cs : List Nat, joinL [] (cs.map fun c => [c]) = cs
  | [] => rfl
  | [c] => rfl
  | c :: d :: r => by
    show [c] ++ ([] ++ joinL [] ((d :: r).map fun c => [c])) = c :: d :: r
    rw [joinL_ones (d :: r)]
    rfl
open TL in
theorem join_ones (cs : List Nat) : (Txt.join "" (cs.map fun c => (⟨#[c]⟩ : Str))).cps.toList = cs := by
  rw [join_eq]
  have h := tl_join "" (cs.map fun c => (⟨#[c]⟩ : Str))
  have e : List.map tl (cs.map fun c => (⟨#[c]⟩ : Str)) = cs.map fun c => [c] := by rw [List.map_map]; rfl
  rw [e] at h
  have e2 : tl ("" : Str) = [] := by decide +kernel
  rw [e2, joinL_ones] at h
  exact h
theorem tl_cut (z : Str) (lo hi : Option Int) : ∀ c ∈ (cutS z lo hi).cps.toList, c ∈ z.cps.toList := by
  intro c hc
  have h : c ∈ (z.cps.toList.drop (HT.sIx z.length 0 lo)).take (HT.sIx z.length z.length hi - HT.sIx z.length 0 lo) := by
    have e : (cutS z lo hi).cps.toList = (z.cps.toList.drop (HT.sIx z.length 0 lo)).take (HT.sIx z.length z.length hi - HT.sIx z.length 0 lo) := by
      unfold cutS
      simp
    rw [e] at hc
    exact hc
  exact List.mem_of_mem_drop (List.mem_of_mem_take h)
theorem tl_app (x y : Str) : (x ++ y).cps.toList = x.cps.toList ++ y.cps.toList := TL.tl_append x y
theorem len_app (x y : Str) : (x ++ y).length = x.length + y.length := by rw [len_tl, tl_app, List.length_append, ← len_tl, ← len_tl]
theorem log2_small {i : Int} (h : i.natAbs < 2 ^ 200) : i.natAbs.log2 < 1920 := Nat.lt_of_lt_of_le (PySem.Flt.log2_lt_of (by decide) h) (by decide)
theorem len_num {i : Int} (h : i.natAbs.log2 < 1920) : (Str.ofString (toString i)).length ≤ sizeLine := PySem.int_text_fits h
end Vc

set_option Elab.async false
set_option linter.all false
set_option maxRecDepth 100000
set_option maxHeartbeats 4000000
/-! own exceptions whose __init__ begins by super().__init__(text) -/
namespace Xs
open PySem L2
/-- what the top has written of such an __init__ and its class -/
structure SupT (P : Program) (K : PySem.W.Frag) (mg : Str → Option Value) (C f : Addr) (name qual : Str) (params : Arguments) (body : List Stmt) (scope : Scope) (fd : FuncData) : Prop where
  ox : OexC K C
  ini : PySem.W.findIn K (.ref C) "__init__" = some (some (.ref f))
  tyI : PySem.W.typeIn K (.ref f) = some (.type "function")
  ex : ∃ (oc : Value) (od : Option Addr) (dV kV doc pm : Value) (an : Option Addr) (cda : Addr) (ct : Value) (osl : Array (Option Value)) (cc : Addr) (ccl : Value) (cdd : Option Addr) (cvs : Array Value) (ccs : Array (Option Value)) (file : Str) (tf : Tok) (cl : Value) (cld : Option Addr) (csl : Array (Option Value)) (cdC : ClassData),
    fd = PySem.W.ksFn name qual params body scope dV kV doc pm an (.ref cda) ct cc ∧ K.lookup f = some ⟨oc, od, .func fd, osl⟩ ∧ PySem.W.codeIn K (.ref cda) qual = true ∧
    K.lookup cda = some ⟨ccl, cdd, .fields cvs, ccs⟩ ∧ cvs[2]? = some (.str file tf) ∧ ((P.main.file : Str) == file) = true ∧ K.lookup cc = some ⟨cl, cld, .cell (some (.ref C)), csl⟩ ∧ PySem.W.clsIn K C = some cdC
  sub : PySem.W.mroIn K C (.ref C) = some true
  sup : PySem.W.ks_superIn K C C "__init__" = some (some (.builtin "ValueError.__init__"))
  veC : PySem.W.subIn K (.ref C) (.type "ValueError") = some true
  mgS : mg "super" = none
  tp : PySem.W.nsIn K cStatics "thirdparty.any" = some none
  top : (P.main.scope.names.lookup ("super" : Str)).isSome = false
/-- its scope: parameters (self first) local, super global, __class__ free -/
structure SupS (ps : List Str) (params : Arguments) (sc : Scope) : Prop where
  kind : sc.kind = .function
  co : sc.isCoroutine = false
  gen : sc.isGenerator = false
  nd : ps.Nodup
  par : ∀ x ∈ ps, sc.names.lookup x = some .local
  nocell : ∀ x ∈ sc.names, x.2 ≠ .cell
  free : ∀ x, sc.names.lookup x = some .free → x = "__class__"
  nocell2 : ∀ x, sc.names.lookup x ≠ some .cell
  sup : sc.names.lookup ("super" : Str) = some .globalImplicit
  cls : sc.names.lookup ("__class__" : Str) = some .free
  hd : ∃ ar : Arg, (params.posonlyargs ++ params.args).head? = some ar ∧ ps.head? = some ar.arg
/-- the context of its body -/
def cxS (CX : CXT) (P : Program) (w : World) (K : PySem.W.Frag) (mg : Str → Option Value) (base : Heap) (N : List Str) (qual : Str) (scope : Scope) (f : Addr) (cd : Value) (cc : Addr) (A : Around) (outer : List Env) (s : Shared) (H : Hp) (E : XK) : Cx where
  prog := P
  w := w
  K := K
  mg := mg
  base := base
  A := A.deeper (PySem.W.ksEnv qual scope s.heap.objs.size f cd cc)
  N := N
  s_0 := s
  H_0 := H
  env := PySem.W.ksEnv qual scope s.heap.objs.size f cd cc
  outer := outer
  stack := PySem.W.ksEnv qual scope s.heap.objs.size f cd cc :: outer
  ex := []
  calm := true
  fn := fun x => !(x == ("__class__" : Str))
  pn := []
  xe := fun e s' => wpAny (model P w) (A.deeper (PySem.W.ksEnv qual scope s.heap.objs.size f cd cc)) (leaving (PySem.W.ksEnv qual scope s.heap.objs.size f cd cc) e) (fun _ s'' => CX outer H s E e s'') (fun e' s'' => CX outer H s E e' s'') s'
theorem fst_zip : ∀ (ps : List Str) (us : List Value), (ps.zip us).map (·.1) = ps.take us.length
  | [], us => by simp
  | p :: ps, [] => rfl
  | p :: ps, u :: us => by
    show p :: (ps.zip us).map (·.1) = p :: ps.take us.length
    rw [fst_zip ps us]
theorem zip_rev {ps : List Str} {us : List Value} (nd : ps.Nodup) {i : Nat} {x : Str} {u : Value} (h1 : ps[i]? = some x) (h2 : us[i]? = some u) : (ps.zip us).reverse.lookup x = some u := by
  have key : ∀ (l : List (Str × Value)), (l.map (·.1)).Nodup → (x, u) ∈ l → l.lookup x = some u := by
    intro l
    induction l with
    | nil => intro _ h; cases h
    | cons p r ih =>
      intro hn hm
      obtain ⟨y, v⟩ := p
      rw [List.map_cons, List.nodup_cons] at hn
      rcases List.mem_cons.mp hm with e | hm2
      · cases e
        simp [List.lookup]
      · have hne : (x == y) = false := by
          rw [beq_eq_false_iff_ne]
          intro e
          refine hn.1 ?_
          rw [← e]
          exact List.mem_map.mpr ⟨(x, u), hm2, rfl⟩
        rw [List.lookup_cons, hne]
        exact ih hn.2 hm2
  refine key _ ?_ ?_
  · rw [List.map_reverse]
    have hs : (ps.zip us).map (·.1) = ps.take us.length := fst_zip ps us
    rw [hs]
    exact List.pairwise_reverse.mpr ((nd.sublist (List.take_sublist _ _)).imp fun h e => h e.symm)
  · rw [List.mem_reverse]
    refine List.mem_of_getElem? (i := i) ?_
    rw [List.getElem?_zip_eq_some]
    exact ⟨h1, h2⟩

section
variable {CX : CXT} {P : Program} {w : World} {K : PySem.W.Frag} {mg : Str → Option Value} {base : Heap} {N ps : List Str} {qual : Str} {scope : Scope} {f : Addr} {cd : Value} {cc : Addr} {A : Around} {outer : List Env} {s : Shared} {H : Hp} {E : XK} {us : List Value} {vs : List V}
theorem inv_sup {params : Arguments} {h0 : Heap} {t0 : Nat} {oc : Obj} {cv : Option Value} (S : SupS ps params scope) (hd : A.handled = none) (e0 : Env0 P w K mg base A outer s H) (hl : vs.length = ps.length) (r : Vals vs us) (hcc : K.lookup cc = some oc) (hcv : oc.data = .cell cv)
    (hns : h0.Ns s.heap.objs.size (fun x => (ps.zip us).reverse.lookup x)) (hk : ∀ b o, s.heap.get? b = some o → h0.get? b = some o) :
    Inv (cxS CX P w K mg base ps qual scope f cd cc A outer s H E) [] (vs.map some) H { s with heap := h0, toks := t0 } := by
  have kb : ∀ b o, K.lookup b = some o → s.heap.get? b = some o ∧ H b = none := fun b o e => e0.bs b o (e0.mod.kin b o e)
  have cells : ∀ x c, (cxS CX P w K mg base ps qual scope f cd cc A outer s H E).env.cells.lookup x = some c → x = "__class__" ∧ c = cc := fun x c h => by
    have h' : ([(("__class__" : Str), cc)] : List (Str × Addr)).lookup x = some c := h
    rw [List.lookup_cons] at h'
    by_cases e : x = ("__class__" : Str)
    · subst e
      rw [beq_self_eq_true] at h'
      exact ⟨rfl, (Option.some.inj h').symm⟩
    · have e2 : (x == ("__class__" : Str)) = false := by rw [beq_eq_false_iff_ne]; exact e
      rw [e2] at h'
      cases h'
  have noA : ∀ b : Addr, b ∉ (cxS CX P w K mg base ps qual scope f cd cc A outer s H E).ex := fun b z => absurd (show b ∈ ([] : List Addr) from z) (by simp)
  refine ⟨⟨e0.mod, S.kind, rfl, rfl, Nat.le_refl _, fun x y c h1 h2 => ?_, fun x hx => ?_, fun x c h1 h2 => ?_, fun _ => hd, Around.frames_deeper e0.frames, .inr ⟨rfl, rfl⟩, fun b z => absurd z (noA b), e0.bs, e0.bsz, fun b _ _ => noA b, fun b z => absurd z (noA b), e0.funs, e0.frf⟩,
    rfl, e0.bare, Un.kept hk, ⟨_, hns, fun i x v h1 h2 h3 => ?_⟩, fun x c h => ?_, e0.hok.fresh (Nat.le_refl _), fun x c h => ?_, fun p hp => absurd (show p ∈ ([] : List (Addr × Obj)) from hp) (by simp), e0.hok.kept hk, ?_⟩
  · rw [(cells x c h1).1, (cells y c h2).1]
  · rcases hx with hx | hx
    · exact absurd hx (S.nocell2 x)
    · rw [S.free x hx]
      exact ⟨cc, rfl⟩
  · rw [(cells x c h2).1] at h1
    exact absurd (show (!((("__class__" : Str) == ("__class__" : Str)))) = true from h1) (by decide +kernel)
  · have hv : vs[i]? = some v := by
      rw [List.getElem?_map] at h2
      cases e : vs[i]? with
      | none => rw [e] at h2; cases h2
      | some a => rw [e] at h2; cases h2; rfl
    obtain ⟨u, hu, rv⟩ := r.get hv
    exact ⟨u, rv, .inl ⟨S.par x (List.mem_of_getElem? h1), zip_rev S.nd h1 hu⟩⟩
  · rw [(cells x c h).2]
    exact ⟨cv, oc, hk _ _ (kb _ _ hcc).1, hcv⟩
  · rw [(cells x c h).2]
    exact (kb _ _ hcc).2
  · rw [List.length_map]
    exact hl

/-- a promise of such an __init__ over its rest (behind super().__init__(text)) -/
theorem fn_sup {params : Arguments} {rest : List Stmt} {name : Str} {fd : FuncData} {k : Nat} {C : Addr} {sp : Sp} {p0 p1 p2 p3 p4 p5 : Pos} {j : Nat} {txt : Str}
    (T : SupT P K mg C f name qual params (.Expr (.Call (.Attribute (.Call (.Name "super" p0) [] [] p1) "__init__" p2) [.Constant (.str txt) j p3] [] p4) p5 :: rest) scope fd) (S : SupS ps params scope)
    (hev : ∀ env : Env, ∃ pl : Sem Bool, eval (.Call (.Attribute (.Call (.Name "super" p0) [] [] p1) "__init__" p2) [.Constant (.str txt) j p3] [] p4) env = (do
      let o ← attributeBase (.Call (.Name "super" p0) [] [] p1) "__init__" env (eval (.Call (.Name "super" p0) [] [] p1) env)
      standAt p2.atName
      let (g, first) ← holding [o] (getMethod o "__init__" pl)
      callWith p4 g first (backTo p4 (starEach [.Constant (.str txt) j p3] env)) []))
    (len : ∀ vs H Q E, sp vs H Q E → vs.length = ps.length) (pre : ∀ vs H Q E, sp vs H Q E → ∃ a ws, vs = V.ref a :: ws ∧ H a = some (exo a C none))
    (hbody : ∀ (cd : Value) (cc : Addr) (A : Around) (outer : List Env) (s : Shared) (H : Hp) (vs : List V) (Q : VK) (E : XK), Room k (A.deeper (PySem.W.ksEnv qual scope s.heap.objs.size f cd cc)) → sp vs H Q E →
      ∃ t, PSs (cxS CX P w K mg base ps qual scope f cd cc A outer s H E) rest t ∧ t { nx := fun _ H' => Q .non H', rt := Q } (vs.map some) H) :
    FnOk P w K mg base CX (k + 1) f fd ps sp := by
  obtain ⟨oc, od, dV, kV, doc, pm, an, cda, ct, osl, cc, ccl, cdd, cvs, ccs, file, tf, cl, cld, csl, cdC, rfl, lk, hcd, lcd, hfv, hfile, lcc, hC⟩ := T.ex
  refine ⟨len, fun A outer s H args us vs Q E hr e0 hb r hsp => ?_⟩
  have hl := len _ _ _ _ hsp
  obtain ⟨a, ws, rfl, hea⟩ := pre _ _ _ _ hsp
  have kst : ∀ b o, base.get? b = some o → s.heap.get? b = some o := fun b o e => (e0.bs b o e).1
  have KX : K.In s.heap := e0.mod.kin.keeps kst
  refine ks_codeAny_call_defAt (binds := ps.zip us) hr.depth (KX _ _ lk) rfl (e0.mod.nolimit.keeps kst) (PySem.W.codeRec_of KX hcd) rfl hb S.nocell (fun y hy => S.par y.1 (List.of_mem_zip hy).1) (fun h0 hns hk => ?_) S.co S.gen S.kind
  have I := inv_sup (CX := CX) (qual := qual) (f := f) (cd := .ref cda) (E := E) (t0 := s.toks + (ps.zip us).length) S hr.hd e0 hl r lcc rfl hns hk
  obtain ⟨ar, hp, hps⟩ := S.hd
  obtain ⟨t, ht, hq⟩ := hbody (.ref cda) cc A outer s H _ Q E (hr.deeper _) hsp
  have KI : K.In h0 := KX.keeps hk
  have hint : interactive (PySem.W.ksEnv qual scope s.heap.objs.size f (.ref cda) cc) = false := by simp [interactive, S.kind]
  obtain ⟨pl, he⟩ := hev (PySem.W.ksEnv qual scope s.heap.objs.size f (.ref cda) cc)
  refine ks_wpAt_execs_cons (ks_wpAt_Expr_any (ks_wpAt_MethodCall (pl := pl) ?_ he) hint)
  refine ks_wpAt_super_base S.sup S.cls (by decide) rfl (KI _ _ lk) rfl hp rfl (KI _ _ lcd) rfl hfv hfile T.top ?_
  obtain ⟨mb, b1, b2⟩ := e0.mod.blt
  refine PySem.W.ks_loadName_global S.kind S.sup (Calls.loadGlobal_builtin ((e0.mod.glob.keeps kst).keeps hk) T.mgS ((b1.keeps kst).keeps hk) ((b2 _ (by decide)).trans (by decide +kernel)) ⟨rfl, ?_⟩)
  refine wpAny_loadName_free S.kind S.cls rfl ⟨_, KI _ _ lcc, rfl⟩ ?_
  have hself : (ps.zip us).reverse.lookup ar.arg = some (.ref a) := by
    cases r with
    | cons r1 r2 =>
      rw [List.head?_eq_getElem?] at hps
      refine zip_rev S.nd hps ?_
      have r1' : _ = Value.ref a := r1
      rw [r1']
      rfl
  have hka : scope.names.lookup ar.arg = some .local := S.par _ (by
    rw [List.head?_eq_getElem?] at hps
    exact List.mem_of_getElem? hps)
  refine wpAny_loadName_local S.kind hka hns hself ?_
  obtain ⟨oD, hD1, hD2⟩ : ∃ oD, h0.get? C = some oD ∧ oD.data = .cls cdC := by
    unfold PySem.W.clsIn at hC
    split at hC
    · rename_i ho
      cases hC
      exact ⟨_, KI _ _ ho, rfl⟩
    · cases hC
  obtain ⟨t1, hxo⟩ := exo_at I.hok hea
  refine ks_wpAny_isType_cls hD1 hD2 ⟨rfl, ?_⟩
  refine ks_wpAny_call_super hD1 hD2 hxo rfl (fun c e => by cases e) (PySem.W.looks_mroIn KI T.sub) (fun h1 hso k1 => ?_)
  have KI1 : K.In h1 := KI.keeps k1
  have hx1 := k1 _ _ hxo
  have In1 : PySem.W.InstAt h1 a _ C none := ⟨hx1, rfl, rfl, trivial⟩
  have hm : PySem.W.alongIn K "__init__" ((cdC.mro.dropWhile (· != .ref C)).drop 1) = some (some (.builtin "ValueError.__init__")) := by
    have z := T.sup
    unfold PySem.W.ks_superIn at z
    rw [hC] at z
    exact z
  refine PySem.W.kxs_getMethod PySem.W.kxs_ValueError hso (PySem.W.looks_opaque KI1 T.tp) (l₀ := cdC.mro) (fun A Q E s k q => wpAny_bind ((PySem.W.looks_clsIn KI1 hC) A _ E s k (wpAny_pure q))) rfl KI1 hm (In1.type.andThen (PySem.W.looks_subIn KI1 T.veC)) (PySem.W.ks_ne KI1 In1 hC) (by decide) ?_
  have k2 : ∀ b o, h0.get? b = some o → (h1.push (PySem.W.kxs_mw "ValueError.__init__" a)).get? b = some o := fun b o e => Heap.get?_push_of_some _ (k1 b o e)
  have I2 := I.kept (h' := h1.push (PySem.W.kxs_mw "ValueError.__init__" a)) (t' := s.toks + (ps.zip us).length + 1) k2
  have hu : (h1.push (PySem.W.kxs_mw "ValueError.__init__" a)).get? h1.objs.size = some (PySem.W.kxs_mw "ValueError.__init__" a) := Heap.get?_push_at rfl rfl
  have hsz : h0.objs.size ≤ h1.objs.size := Nat.le_of_lt (Heap.lt_size hso)
  have hun : H h1.objs.size = none := I.hok.fresh hsz
  have I3 := I2.pins_of (pins' := [(h1.objs.size, PySem.W.kxs_mw "ValueError.__init__" a)]) fun p hp => by
    rw [List.mem_singleton] at hp
    subst hp
    refine ⟨hu, hun, fun z => ?_, I.nofs hsz, fun v z => by cases z⟩
    have z3 : h1.objs.size = s.heap.objs.size := z
    have z4 : s.heap.objs.size < h0.objs.size := I.lt
    rw [← z3] at z4
    exact absurd hsz (Nat.not_le_of_lt z4)
  refine PySem.W.kxs_callWith (i := "ValueError.__init__") (x := a) rfl ?_
  refine Calls.evalArgs_plain ?_
  refine thn ((pa_cons (X := cxS CX P w K mg base ps qual scope f (.ref cda) cc A outer s H E) (pe_str (x := txt) (j := j) (pos := p3)) pa_nil).run p4 _ _ _ _ (fun vs' H' => vs' = [.str txt] ∧ H' = H) I3 ⟨rfl, rfl⟩) fun zs s4 q4 => ?_
  obtain ⟨vs', H', I4, r4, rfl, rfl⟩ := q4
  have hu4 := (I4.pin _ (List.mem_append_right _ (List.mem_singleton.mpr rfl))).1
  refine ⟨hu4, ?_⟩
  obtain ⟨nm, q, N', bs, bm, sn, sub, ab, col, dd, k0, k1', k2', k3', k5, lC, hbm⟩ := T.ox.cls
  obtain ⟨t4, hx4⟩ := exo_at I4.hok hea
  obtain ⟨h4, g4, d4, tk4, os4⟩ := s4
  have hzs : zs.length ≤ sizeLine := by
    rw [← Paired.length r4]
    show 1 ≤ sizeLine
    decide
  have fin : ∀ h', (∀ b o, b ≠ a → h4.get? b = some o → h'.get? b = some o) → h'.get? a = some (PySem.W.excRec (.ref C) h4.objs.size none .none .none (.bool false)) → Inv (cxS CX P w K mg base ps qual scope f (.ref cda) cc A outer s H' E) [] (List.map some (V.ref a :: ws)) H' ⟨h', g4, d4, tk4, os4⟩ := fun h' kk hx => by
    have J := (I4.pins_of (pins' := []) fun p hp => by cases hp).write (t' := tk4) (x := a) (e := a) (o := exo a C none) (by rw [hea]; exact True.intro) (.inl rfl) kk ⟨_, hx⟩ (exo_ok hx)
    have eu : upd H' a (exo a C none) = H' := by
      funext b
      by_cases hb : b = a
      · rw [hb, upd_same, hea]
      · rw [upd_ne hb]
    rw [eu] at J
    exact J
  have FB := F.excBase_ValueError
  refine wpAny_call (codeAny_of_tree ?_); show wpAny _ _ (callAny (.ref h1.objs.size) ⟨zs, []⟩) _ _ _; simp only [callAny]; refine wpAny_bind (wpAny_load hu4 ?_)
  refine PySem.W.KFB.if_so (show (Value.type "method-wrapper" == Value.type "method" || Value.type "method-wrapper" == Value.type "builtin_function_or_method" || Value.type "method-wrapper" == Value.type "method-wrapper") = true by decide) (wpAny_bind (PySem.W.check_bound_init FB.toExcCallFacts (I4.kIn _ _ lC) hx4 rfl (wpAny_bind (wpAny_pure (wpAny_pure ⟨plainId_quiet FB.init.plain _, codeAny_builtin FB.initEntry ?_⟩)))))
  refine PySem.W.exc_init_tree (cls := .ref C) (t0 := t4) (dv := none) (c2 := .none) (c3 := .none) (b4 := .bool false) hx4 hzs fun h5 kk5 hx5 _ => ?_
  have I5 := fin h5 kk5 hx5
  refine wpAt_of_wpAny (wpAny_mono (ht.run [] _ _ _ _ I5 hq) (fun fl s' hs => ?_) fun _ _ z => z)
  cases fl with
  | ret u =>
    obtain ⟨v, σ', H2, J, rv, q⟩ := hs
    exact ⟨v, H2, J.os, J.bare, J.base, J.hok, rv, q⟩
  | next =>
    obtain ⟨σ', H2, J, q⟩ := hs
    exact ⟨.non, H2, J.os, J.bare, J.base, J.hok, rfl, q⟩
  | brk =>
    obtain ⟨_, _, _, q⟩ := hs
    exact False.elim q
  | cont =>
    obtain ⟨_, _, _, q⟩ := hs
    exact False.elim q
end
end Xs

set_option Elab.async false
set_option linter.all false
set_option maxRecDepth 100000
set_option maxHeartbeats 4000000
/-! try with any clauses, each with a name or without -/
namespace Xs
open PySem PySem.Spec PyProof.Rows L2
def goneE (D : Ends) (i : Nat) : Ends := { nx := fun σ H => D.nx (σ.set i none) H, rt := D.rt, bk := fun σ H => D.bk (σ.set i none) H, ct := fun σ H => D.ct (σ.set i none) H }
/-- a clause: its class, its name's slot, its suite -/
structure Cl where
  c : Value
  i : Option Nat
  ts : Addr → Value → Option Addr → TS
def Cl.wish (k : Cl) (D : Ends) (cls : Value) (d : Option Addr) (a : Addr) (σ : L2.St) (H : Hp) : Prop := match k.i with
  | none => k.ts a cls d D σ H
  | some i => k.ts a cls d (goneE D i) (σ.set i (some (.ref a))) H
def wG (K : PySem.W.Frag) (Wout : WX) (D : Ends) : List Cl → WX
  | [] => Wout
  | k :: r => fun cls d σ H => ∃ b, PySem.W.exmOne K cls k.c = some b ∧ (b = true → ∀ a, H a = none → k.wish D cls d a σ H) ∧ (b = false → wG K Wout D r cls d σ H)
inductive ClsOk (X : Cx) : List ExceptHandler → List Cl → Prop
  | nil : ClsOk X [] []
  | bare {x : Str} {c : Value} {ts : Addr → Value → Option Addr → TS} {b0 : Stmt} {suite : List Stmt} {np p : Pos} {hs : List ExceptHandler} {l : List Cl} (hc : Names X x c)
      (hsu : ∀ (a : Addr) (oe : Obj) (cls : Value) (d : Option Addr) (pn : List (Addr × Obj)), Zc cls d oe → (∃ vs, oe.data = .fields vs) → PSs (X.suite a ((a, oe) :: pn)) (b0 :: suite) (ts a cls d)) (r : ClsOk X hs l) :
      ClsOk X (.ExceptHandler (some (.Name x np)) none (b0 :: suite) p :: hs) (⟨c, none, ts⟩ :: l)
  | as {x n : Str} {i : Nat} {c : Value} {ts : Addr → Value → Option Addr → TS} {b0 : Stmt} {suite : List Stmt} {np p : Pos} {hs : List ExceptHandler} {l : List Cl} (hN : X.N.Nodup) (hi : X.N[i]? = some n) (hln : X.env.kindOf n = some .local) (hc : Names X x c)
      (hsu : ∀ (a : Addr) (oe : Obj) (cls : Value) (d : Option Addr) (pn : List (Addr × Obj)), Zc cls d oe → (∃ vs, oe.data = .fields vs) → PSs (X.suite a ((a, oe) :: pn)) (b0 :: suite) (ts a cls d)) (r : ClsOk X hs l) :
      ClsOk X (.ExceptHandler (some (.Name x np)) (some n) (b0 :: suite) p :: hs) (⟨c, some i, ts⟩ :: l)
section
variable {X : Cx}
/-- the exception a is landed in the frame of X: what the clauses do -/
theorem go_clauses {pins : List (Addr × Obj)} {Wout : WX} {D : Ends} {a : Addr} {B : Heap} {sI s' : Shared} {σ : L2.St} {H : Hp} {cls : Value} {d : Option Addr} (hs : X.stack = X.env :: X.outer) (hf : X.env.frame = some X.env.locals) (tk : Takes X Wout) (ok : X.Ok)
    (J : Inv X pins σ H sI) (nb : ∀ b o, sI.heap.get? b = some o → b ∉ frs X.stack → B.get? b = some o) (na : H a = none) (os : s'.os = sI.os) (ag : AllBare s'.gens) {h3 : Heap} (fl3 : HandSPX.FlyingZ B (X.env :: X.outer) a (Zc cls d) h3) (up : sI.heap.UpToSlots h3)
    (nL : a ≠ X.env.locals) (nF : a ∉ X.fs) : ∀ {hds : List ExceptHandler} {l : List Cl}, ClsOk X hds l → wG X.K Wout D l cls d σ H → wpAny (model X.prog X.w) X.A (handleBy (.ref a) X.env hds) (SP X pins D) X.xe { s' with heap := h3 } := by
  intro hds l hk
  obtain ⟨oe3, vs3, he3, hz3, hd3⟩ := fl3.there
  have J3 : Inv X pins σ H { s' with heap := h3 } := J.landed nb fl3.1 up os ag
  have S3 := J3.suite he3 hd3 na nL nF
  have name : ∀ {x : Str} {c : Value} {np : Pos} {Q E : Value → Shared → Prop}, Names X x c → Q c { s' with heap := h3 } → wpAny (model X.prog X.w) (X.A.mark (some (.ref a))) (eval (.Name x np) X.env) Q E { s' with heap := h3 } := fun {x c np Q E} hc q => by
    obtain ⟨hg, hdb, hm | ⟨hm, hv, hn⟩⟩ := hc
    · exact ld_glob (X := X.suite a ((a, oe3) :: (X.pn ++ pins))) S3 hg hm q hdb
    · exact ld_blt (X := X.suite a ((a, oe3) :: (X.pn ++ pins))) S3 hg hm hv q hn hdb
  have LT : PySem.W.Looks (model X.prog X.w) h3 (typeOf (.ref a)) cls := fun A Q E s k q => wpAny_typeOf_ref (k _ _ he3) (by rw [hz3.1]; exact q)
  induction hk with
  | nil =>
    intro w
    refine wpAny_handleBy_nil ?_
    obtain ⟨k1, k2, k3, oe, vs, T, oT, ts', he, hz, hd, h1, hr⟩ := id fl3
    have fin : wpAny (model X.prog X.w) X.A (setFlight (.ref a) X.env.frame) (fun _ s4 => wpAny (model X.prog X.w) X.A (throw (.ref a) : Sem Flow) (SP X pins D) X.xe s4) X.xe { s' with heap := h3 } := by
      rw [hf]
      exact HandSPX.setFlight_upZ fl3 fun h4 hh4 up4 => wpAny_throw (tk _ _ ⟨a, B, sI, pins, σ, H, cls, d, rfl, J, nb, up.trans up4, .inr (.inr (by rw [hs]; exact hh4)), na, os, ag, w⟩)
    unfold PySem.passOn; refine wpAny_bind (wpAny_field he hd h1 ?_); rw [if_neg (show ¬ ((Value.ref T == Value.none) = true) from by simp)]
    first | exact wpAny_bind (wpAny_pure (wpAny_bind fin)) | exact wpAny_bind fin
  | @bare x c ts b0 suite np p hs2 l2 hc hsu r ih =>
    intro w
    obtain ⟨b, hb1, yes, no⟩ := w
    refine wpAny_handleBy_cons (codeAny_handlers_test (name hc ((PySem.W.exm_one (M := model X.prog X.w) J3.kIn LT hb1).here ?_))) (by intro q; cases q)
    cases b with
    | false => exact ih (no rfl)
    | true =>
      refine codeAny_handlers_suite (HandSPX.lands_againZ fl3 fun h4 fl4 up4 => ?_)
      obtain ⟨oe4, vs4, he4, hz4, hd4⟩ := fl4.there
      have J4 : Inv X pins σ H { s' with heap := h4 } := J.landed nb fl4.1 (up.trans up4) os ag
      have S4 := J4.suite he4 hd4 na nL nF
      refine wpAny_mono ((hsu a oe4 cls d (X.pn ++ pins) hz4 ⟨_, hd4⟩).run [] _ _ H _ S4 (yes rfl a na)) (fun fl s6 hsp => ?_) (fun _ _ z => False.elim z)
      cases fl with
      | ret u => obtain ⟨v6, σ6, H6, S6, r6, q6⟩ := hsp; exact ⟨_, _, _, S6.unsuite ok, r6, q6⟩
      | next => obtain ⟨σ6, H6, S6, q6⟩ := hsp; exact ⟨_, _, S6.unsuite ok, q6⟩
      | brk => obtain ⟨σ6, H6, S6, q6⟩ := hsp; exact ⟨_, _, S6.unsuite ok, q6⟩
      | cont => obtain ⟨σ6, H6, S6, q6⟩ := hsp; exact ⟨_, _, S6.unsuite ok, q6⟩
  | @as x n i c ts b0 suite np p hs2 l2 hN hi hln hc hsu r ih =>
    intro w
    obtain ⟨b, hb1, yes, no⟩ := w
    refine wpAny_handleBy_cons (codeAny_handlers_test (name hc ((PySem.W.exm_one (M := model X.prog X.w) J3.kIn LT hb1).here ?_))) (by intro q; cases q)
    cases b with
    | false => exact ih (no rfl)
    | true =>
      refine codeAny_handlers_suite_as (HandSPX.lands_againZ fl3 fun h4 fl4 up4 => ?_)
      obtain ⟨oe4, vs4, he4, hz4, hd4⟩ := fl4.there
      have J4 : Inv X pins σ H { s' with heap := h4 } := J.landed nb fl4.1 (up.trans up4) os ag
      have S4 := J4.suite he4 hd4 na nL nF
      refine store_ok (X := X.suite a ((a, oe4) :: (X.pn ++ pins))) (v := .ref a) S4 hN hi (.inl hln) rfl (fun s5 S5 => ?_) (.inr hln)
      refine wpAny_mono ((hsu a oe4 cls d (X.pn ++ pins) hz4 ⟨_, hd4⟩).run [] s5 _ H _ S5 (yes rfl a na)) (fun fl s6 hsp => ?_) (fun _ _ z => False.elim z)
      cases fl with
      | ret u => obtain ⟨v6, σ6, H6, S6, r6, q6⟩ := hsp; exact gone_ok (S6.unsuite ok) hN hi hln fun s7 J7 => ⟨_, _, _, J7, r6, q6⟩
      | next => obtain ⟨σ6, H6, S6, q6⟩ := hsp; exact gone_ok (S6.unsuite ok) hN hi hln fun s7 J7 => ⟨_, _, J7, q6⟩
      | brk => obtain ⟨σ6, H6, S6, q6⟩ := hsp; exact gone_ok (S6.unsuite ok) hN hi hln fun s7 J7 => ⟨_, _, J7, q6⟩
      | cont => obtain ⟨σ6, H6, S6, q6⟩ := hsp; exact gone_ok (S6.unsuite ok) hN hi hln fun s7 J7 => ⟨_, _, J7, q6⟩
theorem ps_tryG {body : List Stmt} {h0 : ExceptHandler} {hds : List ExceptHandler} {l : List Cl} {pos : Pos} {tb : WX → TS} {Wout : WX} (hs : X.stack = X.env :: X.outer) (hf : X.env.frame = some X.env.locals) (tk : Takes X Wout)
    (hb : ∀ (W : WX) (pn : List (Addr × Obj)) (xe : Value → Shared → Prop), Takes (X.tr pn xe) W → PassesOwn (model X.prog X.w) X.A X.env xe → PSs (X.tr pn xe) body (tb W)) (hh : ClsOk X (h0 :: hds) l) :
    PS X (.Try body (h0 :: hds) [] [] pos) (fun D σ H => tb (wG X.K Wout D l) D σ H) := by
  refine ⟨fun pins s σ H D I h => wpAny_Try_except ?_⟩
  have ok := I.ok
  have hfr : X.A.frames = some (X.env :: X.outer) := by rw [ok.frames, hs]
  refine wpAny_mono ((hb (wG X.K Wout D l) (X.pn ++ pins) _ (fun u s' xx => ?_) PassesOwn.looking).run [] s σ H D (I.toTry _) h) (fun fl s1 hsp => ?_) (fun e s1 he => he)
  · obtain ⟨a, B, sI, pins', σ', H', cls, d, rfl, J', nb, up, sky, na, os, ag, w⟩ := xx
    show wpAny _ _ (noteFrame (.ref a) X.env) _ _ _
    refine Sky.land Zc.steady hfr hf (by rw [← hs]; exact sky) fun h3 fl3 up3 => ?_
    obtain ⟨oe, vs, he, _, hd⟩ := fl3.there
    have nfr : a ∉ frs (X.env :: X.outer) := fun hm => by
      obtain ⟨_, o', e', hnf⟩ := fl3.2.2.1.mem hm
      rw [he] at e'
      cases e'
      exact hnf _ hd
    refine go_clauses hs hf tk ok (J'.ofTry ok) nb na os ag fl3 (up.trans up3) (fun z => nfr (List.mem_filterMap.mpr ⟨X.env, List.mem_cons_self, by rw [hf, z]⟩)) (fun hm => ?_) hh w
    obtain ⟨e, he', q⟩ := List.mem_filterMap.mp hm
    exact nfr (List.mem_filterMap.mpr ⟨e, List.mem_cons_of_mem _ he', q⟩)
  · cases fl with
    | ret u => obtain ⟨v, σ', H', J', r, q⟩ := hsp; exact ⟨v, σ', H', J'.ofTry ok, r, q⟩
    | next => obtain ⟨σ', H', J', q⟩ := hsp; exact wpAny_execs_nil ⟨σ', H', J'.ofTry ok, q⟩
    | brk => obtain ⟨σ', H', J', q⟩ := hsp; exact ⟨σ', H', J'.ofTry ok, q⟩
    | cont => obtain ⟨σ', H', J', q⟩ := hsp; exact ⟨σ', H', J'.ofTry ok, q⟩
end
end Xs

set_option Elab.async false
set_option linter.all false
set_option maxRecDepth 100000
set_option maxHeartbeats 4000000
/-! the classes of errors: __init__(self, f ..): super().__init__(text); self.f = f .. -/
namespace Xs
open PySem L2
theorem upd_swap {H : Hp} {a b : Addr} {o u : HO} (h : a ≠ b) : upd (upd H a o) b u = upd (upd H b u) a o := by
  funext c
  unfold upd
  by_cases h1 : c = a
  · subst h1
    rw [if_neg h, if_pos rfl, if_pos rfl]
  · by_cases h2 : c = b
    · subst h2
      rw [if_pos rfl, if_neg h1, if_pos rfl]
    · rw [if_neg h2, if_neg h1, if_neg h1, if_neg h2]
/-- the promise of such an __init__ -/
def spI (C : Addr) (flds : List Str) : Sp := fun vs H Q _ => ∃ a ws, vs = V.ref a :: ws ∧ ws.length = flds.length ∧ H a = some (exo a C none) ∧ ∀ d, H d = none → d ≠ a → Q .non (upd (upd H d (exd d (flds.zip ws).reverse)) a (exo a C (some d)))
section
variable {CX : CXT} {P : Program} {w : World} {K : PySem.W.Frag} {mg : Str → Option Value} {base : Heap} {name qual : Str} {params : Arguments} {scope : Scope} {fd : FuncData} {C f : Addr} {p0 p1 p2 p3 p4 p5 q1 q2 q3 q4 r1 r2 r3 r4 : Pos} {j : Nat} {txt g1 g2 : Str}
abbrev supSt (p0 p1 p2 p3 p4 p5 : Pos) (txt : Str) (j : Nat) : Stmt := .Expr (.Call (.Attribute (.Call (.Name "super" p0) [] [] p1) "__init__" p2) [.Constant (.str txt) j p3] [] p4) p5
abbrev SupE (p0 p1 p2 p3 p4 : Pos) (txt : Str) (j : Nat) : Prop := ∀ env : Env, ∃ pl : Sem Bool, eval (.Call (.Attribute (.Call (.Name "super" p0) [] [] p1) "__init__" p2) [.Constant (.str txt) j p3] [] p4) env = (do
      let o ← attributeBase (.Call (.Name "super" p0) [] [] p1) "__init__" env (eval (.Call (.Name "super" p0) [] [] p1) env)
      standAt p2.atName
      let (g, first) ← holding [o] (getMethod o "__init__" pl)
      callWith p4 g first (backTo p4 (starEach [.Constant (.str txt) j p3] env)) [])
theorem ok_init1 (T : SupT P K mg C f name qual params [supSt p0 p1 p2 p3 p4 p5 txt j, .Assign [.Attribute (.Name "self" q1) g1 q2] (.Name g1 q3) q4] scope fd) (S : SupS ["self", g1] params scope) (hev : SupE p0 p1 p2 p3 p4 txt j)
    (hno : PySem.W.findIn K (.ref C) g1 = some none) (hd1 : (g1 == ("__debug__" : Str)) = false) (hd2 : (g1 == ("__classdict__" : Str)) = false) : FnOk P w K mg base CX 1 f fd ["self", g1] (spI C [g1]) := by
  refine fn_sup T S hev (fun vs H Q E h => ?_) (fun vs H Q E h => ?_) (fun cd cc A outer s H vs Q E hr h => ?_)
  · obtain ⟨a, ws, rfl, hl, _⟩ := h
    rw [List.length_cons, hl]
    rfl
  · obtain ⟨a, ws, rfl, hl, he, _⟩ := h
    exact ⟨a, ws, rfl, he⟩
  · obtain ⟨a, ws, rfl, hl, he, k⟩ := h
    obtain ⟨y, rfl⟩ : ∃ y, ws = [y] := by
      match ws, hl with
      | [y], _ => exact ⟨y, rfl⟩
    have hs : PE (cxS CX P w K mg base ["self", g1] qual scope f cd cc A outer s H E) (.Name "self" q1) (tVar 0) := pe_var rfl (.inl (S.par _ (by simp))) (by decide) (by decide)
    have hv : PE (cxS CX P w K mg base ["self", g1] qual scope f cd cc A outer s H E) (.Name g1 q3) (tVar 1) := pe_var rfl (.inl (S.par _ (by simp))) hd1 hd2
    refine ⟨_, pss_one (ps_ost hs hv), ?_⟩
    refine ⟨_, rfl, _, rfl, a, C, rfl, T.ox, hno, .inl ⟨he, fun dx h1 h2 => k dx h1 h2⟩⟩
theorem ok_init2 (T : SupT P K mg C f name qual params [supSt p0 p1 p2 p3 p4 p5 txt j, .Assign [.Attribute (.Name "self" q1) g1 q2] (.Name g1 q3) q4, .Assign [.Attribute (.Name "self" r1) g2 r2] (.Name g2 r3) r4] scope fd) (S : SupS ["self", g1, g2] params scope) (hev : SupE p0 p1 p2 p3 p4 txt j)
    (hno : PySem.W.findIn K (.ref C) g1 = some none) (hno2 : PySem.W.findIn K (.ref C) g2 = some none) (hd1 : (g1 == ("__debug__" : Str)) = false) (hd2 : (g1 == ("__classdict__" : Str)) = false) (hd3 : (g2 == ("__debug__" : Str)) = false) (hd4 : (g2 == ("__classdict__" : Str)) = false) :
    FnOk P w K mg base CX 1 f fd ["self", g1, g2] (spI C [g1, g2]) := by
  refine fn_sup T S hev (fun vs H Q E h => ?_) (fun vs H Q E h => ?_) (fun cd cc A outer s H vs Q E hr h => ?_)
  · obtain ⟨a, ws, rfl, hl, _⟩ := h
    rw [List.length_cons, hl]
    rfl
  · obtain ⟨a, ws, rfl, hl, he, _⟩ := h
    exact ⟨a, ws, rfl, he⟩
  · obtain ⟨a, ws, rfl, hl, he, k⟩ := h
    obtain ⟨y, z, rfl⟩ : ∃ y z, ws = [y, z] := by
      match ws, hl with
      | [y, z], _ => exact ⟨y, z, rfl⟩
    have hs : ∀ q, PE (cxS CX P w K mg base ["self", g1, g2] qual scope f cd cc A outer s H E) (.Name "self" q) (tVar 0) := fun q => pe_var rfl (.inl (S.par _ (by simp))) (by decide) (by decide)
    have hv : PE (cxS CX P w K mg base ["self", g1, g2] qual scope f cd cc A outer s H E) (.Name g1 q3) (tVar 1) := pe_var rfl (.inl (S.par _ (by simp))) hd1 hd2
    have hv2 : PE (cxS CX P w K mg base ["self", g1, g2] qual scope f cd cc A outer s H E) (.Name g2 r3) (tVar 2) := pe_var rfl (.inl (S.par _ (by simp))) hd3 hd4
    refine ⟨_, pss_cons (ps_ost (hs q1) hv) (pss_one (ps_ost (hs r1) hv2)), ?_⟩
    refine ⟨_, rfl, _, rfl, a, C, rfl, T.ox, hno, .inl ⟨he, fun dx h1 h2 => ?_⟩⟩
    refine ⟨_, rfl, _, rfl, a, C, rfl, T.ox, hno2, .inr ⟨dx, [(g1, y)], upd_same, ?_, (by show 1 ≤ 900; decide), ?_⟩⟩
    · rw [upd_ne h2, upd_same]
    · have e := k dx h1 h2
      rw [upd_swap (Ne.symm h2), upd_upd]
      exact e
end
/-- an error class, as others use it -/
structure ExT (P : Program) (w : World) (K : PySem.W.Frag) (mg : Str → Option Value) (base : Heap) (x : Str) (C : Addr) (flds : List Str) : Prop where
  gC : mg x = some (.ref C)
  ox : OexC K C
  xf : XfC K C
  no : ∀ f ∈ flds, PySem.W.findIn K (.ref C) f = some none
  ini : ∃ (fI : Addr) (fd : FuncData), PySem.W.findIn K (.ref C) "__init__" = some (some (.ref fI)) ∧ PySem.W.typeIn K (.ref fI) = some (.type "function") ∧ FnOk P w K mg base CX0 1 fI fd ("self" :: flds) (spI C flds) ∧ Binds K fd ("self" :: flds) []
/-- raise X(e, ..): what is asked behind its arguments -/
def RaiseK (C : Addr) (flds : List Str) (W : Value → Option Addr → Hp → Prop) (vs : List V) (H1 : Hp) : Prop := vs.length ≤ 1000 ∧ ∀ a, H1 a = none → spI C flds (.ref a :: (vs ++ [])) (upd H1 a (exo a C none))
  (fun v H2 => v = .non ∧ ∃ (d : Addr) (fs : List (Str × V)), H2 a = some (exo a C (some d)) ∧ H2 d = some (exd d fs) ∧ H1 d = none ∧ W (.ref C) (some d) (upd (del H2 a) d (.xd fs))) (fun _ _ _ => False)
def tRaise (C : Addr) (flds : List Str) (W : WX) (ta : TA) : TS := fun _ σ H => ta σ H fun vs H1 => RaiseK C flds (fun cls d H' => W cls d σ H') vs H1
theorem del_upd {H : Hp} {a d : Addr} {o u v x : HO} (ha : H a = none) (hd : d ≠ a) : upd (del (upd (upd (upd H a o) d u) a v) a) d x = upd H d x := by
  funext b
  by_cases hb : b = d
  · rw [hb, upd_same, upd_same]
  · rw [upd_ne hb, upd_ne hb]
    by_cases h2 : b = a
    · rw [h2, del_same, ha]
    · rw [del_ne h2, upd_ne h2, upd_ne hb, upd_ne h2]
theorem e_raise {C : Addr} {flds : List Str} {W : Value → Option Addr → Hp → Prop} {vs : List V} {H : Hp} (hl : vs.length = flds.length) (hz : flds.length ≤ 900) (h : ∀ d, H d = none → W (.ref C) (some d) (upd H d (.xd (flds.zip vs).reverse))) : RaiseK C flds W vs H := by
  refine ⟨by omega, fun a ha => ⟨a, vs, by rw [List.append_nil], hl, upd_same, fun d hd hda => ⟨rfl, d, (flds.zip vs).reverse, upd_same, ?_, ?_, ?_⟩⟩⟩
  · rw [upd_ne hda, upd_same]
  · rw [upd_ne hda] at hd
    exact hd
  · rw [upd_ne hda] at hd
    rw [del_upd ha hda]
    exact h d hd
theorem ps_raiseX {X : Cx} {x : Str} {C : Addr} {flds : List Str} {W : WX} {k : Nat} {e : Expr} {es : List Expr} {ta : TA} {p pos pos' : Pos} (T : ExT X.prog X.w X.K X.mg X.base x C flds) (hr : Room k X.A) (h2k : 2 ≤ k) (hc : X.calm = true) (tk : Takes X W) (hg : Gl X x) (ha : PA X (e :: es) ta)
    (hdb : (x == ("__debug__" : Str)) = false := by decide) (he : starEach (e :: es) X.env = (false, eval e X.env) :: starEach es X.env := by rfl) (hpl : (backTo pos (starEach es X.env)).any (·.1) = false := by rfl) :
    PS X (.Raise (some (.Call (.Name x p) (e :: es) [] pos)) none pos') (tRaise C flds W ta) := by
  obtain ⟨fI, fd, h1, h2, h3, h4⟩ := T.ini
  exact ps_raise (pos := pos') hc tk (pmk_oex (p := p) (pos := pos) T.ox h1 h2 h3 (hr.mono h2k) h4 .nil pass0 hg T.gC ha hdb he hpl)
end Xs

set_option Elab.async false
set_option linter.all false
set_option maxRecDepth 100000
set_option maxHeartbeats 4000000
/-! calls, methods, makings whose errors are wished for at the slots; operators of own classes -/
namespace Ow
open PySem PySem.Spec PyProof.Rows L2
abbrev Cxx (P : Program) (w : World) : CXT := L2.CX P w
/-- a def at f, called by values -/
abbrev Fr (P : Program) (w : World) (K : PySem.W.Frag) (mg : Str → Option Value) (base : Heap) (k : Nat) (f : Addr) (sp : Sp) : Prop := FnR P w K mg base (Cxx P w) k f sp
section
variable {X : Cx} {pins : List (Addr × Obj)} {σ : L2.St} {H : Hp} {s : Shared} {Q : VK} {us : List Value} {vs : List V} {j k : Nat} {f C : Addr} {sp : Sp} {W : WX} {A : Around}
/-- the callee runs, around A -/
theorem runW (F : Fr X.prog X.w X.K X.mg X.base k f sp) (hr : Room k A) (e0 : Env0 X.prog X.w X.K X.mg X.base A X.stack s H) (tk : Takes X W) (I : Inv X pins σ H s) (r : Vals vs us) (h : sp vs H Q (WE W σ)) :
    wpAny (model X.prog X.w) A (call (.ref f) us) (EP X pins σ Q) X.xe s := by
  refine wpAny_call (codeAny_mono (F A X.stack s H us vs Q (WE W σ) hr e0 r h) fun res s' hq => ?_)
  cases res with
  | error e => exact passAt tk σ pins H s e s' I hq
  | ok fl =>
    cases fl with
    | ret u => exact I.after hq
    | next => exact False.elim hq
    | brk => exact False.elim hq
    | cont => exact False.elim hq
theorem makeW (M : Mk X.K C f) (F : Fr X.prog X.w X.K X.mg X.base k f sp) (hr : Room (k + 1) X.A) (tk : Takes X W) (I : Inv X pins σ H s) (r : Vals vs us)
    (h : ∀ x dx, H x = none → H dx = none → dx ≠ x → sp (.ref x :: vs) (upd (upd H dx (.own x)) x (.ins C dx [])) (fun v H2 => v = .non ∧ Q (.ref x) H2) (WE W σ)) :
    wpAny (model X.prog X.w) X.A (call (.ref C) us) (EP X pins σ Q) X.xe s := by
  have hq := h (s.heap.objs.size + 1) s.heap.objs.size (I.hok.fresh (Nat.le_succ _)) (I.hok.fresh (Nat.le_refl _)) (Nat.ne_of_lt (Nat.lt_succ_self _))
  have I2 := Inv.made (C := C) I
  have r2 : Vals (V.ref (s.heap.objs.size + 1) :: vs) (Value.ref (s.heap.objs.size + 1) :: us) := .cons rfl r
  refine wpAny_call (make_map (f := f) I.kIn M.makes M.init (beq_iff_eq.mp M.fn) (codeAny_mono (F _ X.stack _ _ (Value.ref (s.heap.objs.size + 1) :: us) _ _ (WE W σ) (hr.make C us []) (I2.env0.make C us []) r2 hq) fun res s' hq' => ?_))
  cases res with
  | error e => exact passAt tk σ pins _ _ e s' I2 hq'
  | ok fl =>
    cases fl with
    | ret u =>
      obtain ⟨v, H', I3, rv, ev, q3⟩ := I2.after hq'
      subst ev
      exact ⟨rv, ⟨V.ref (s.heap.objs.size + 1), H', I3, rfl, q3⟩⟩
    | next => exact False.elim hq'
    | brk => exact False.elim hq'
    | cont => exact False.elim hq'
end
/-! ### readings -/
def tCallW (sp : Sp) (W : WX) (t : TA) : TE := fun σ H Q => t σ H fun vs H1 => sp vs H1 Q (WE W σ)
def tMethW (C : Addr) (m : Str) (sp : Sp) (W : WX) (ta : TE) (t : TA) : TE := fun σ H Q => ta σ H fun x H1 => ∃ a dx fs, x = .ref a ∧ H1 a = some (.ins C dx fs) ∧ fs.lookup m = none ∧ t σ H1 fun vs H2 => sp (x :: vs) H2 Q (WE W σ)
def MakeK (C : Addr) (sp : Sp) (E : XK) (Q : VK) (vs : List V) (H : Hp) : Prop := ∀ x dx, H x = none → H dx = none → dx ≠ x → sp (.ref x :: vs) (upd (upd H dx (.own x)) x (.ins C dx [])) (fun v H2 => v = .non ∧ Q (.ref x) H2) E
def tMakeW (C : Addr) (sp : Sp) (W : WX) (t : TA) : TE := fun σ H Q => t σ H fun vs H1 => MakeK C sp (WE W σ) Q vs H1
section
variable {X : Cx} {j k : Nat} {f C : Addr} {sp : Sp} {W : WX} {x m : Str} {p pos apos : Pos} {e o : Expr} {es : List Expr} {ta : TE} {t : TA}
theorem pe_callW (F : Fr X.prog X.w X.K X.mg X.base k f sp) (hm : X.mg x = some (.ref f)) (hk : PySem.W.keepIn X.K (.ref f) = true) (hr : Room j X.A) (hj : k ≤ j) (hg : Gl X x) (tk : Takes X W) (ha : PA X (e :: es) t)
    (hdb : (x == ("__debug__" : Str)) = false := by decide) (he : starEach (e :: es) X.env = (false, eval e X.env) :: starEach es X.env := by rfl) (hpl : (backTo pos (starEach es X.env)).any (·.1) = false := by rfl) :
    PE X (.Call (.Name x p) (e :: es) [] pos) (tCallW sp W t) := ⟨fun pins s σ H Q I h => wpAny_Call_Name_kw (ld_glob I hg hm (PySem.W.callWith_K (h₀ := X.base) I.ok.mod.kin hk (thn (ha.run pos pins s σ H _ I h) fun us s1 hh => by
      obtain ⟨vs, H1, I1, r, q⟩ := hh
      exact ⟨I1.kIn, runW F (hr.mono hj) I1.env0 tk I1 r q⟩) he hpl) hdb)⟩
theorem pe_callW0 (F : Fr X.prog X.w X.K X.mg X.base k f sp) (hm : X.mg x = some (.ref f)) (hk : PySem.W.keepIn X.K (.ref f) = true) (hr : Room j X.A) (hj : k ≤ j) (hg : Gl X x) (tk : Takes X W) (hdb : (x == ("__debug__" : Str)) = false := by decide) :
    PE X (.Call (.Name x p) [] [] pos) (tCallW sp W tNil) := ⟨fun pins s σ H Q I h => wpAny_Call_Name_kw (ld_glob I hg hm (PySem.W.callWith_K0 I.kIn hk (runW F (hr.mono hj) I.env0 tk I .nil h)) hdb)⟩
theorem pe_makeW (M : Mk X.K C f) (F : Fr X.prog X.w X.K X.mg X.base k f sp) (hm : X.mg x = some (.ref C)) (hr : Room j X.A) (hj : k + 1 ≤ j) (hg : Gl X x) (tk : Takes X W) (ha : PA X (e :: es) t)
    (hdb : (x == ("__debug__" : Str)) = false := by decide) (he : starEach (e :: es) X.env = (false, eval e X.env) :: starEach es X.env := by rfl) (hpl : (backTo pos (starEach es X.env)).any (·.1) = false := by rfl) :
    PE X (.Call (.Name x p) (e :: es) [] pos) (tMakeW C sp W t) := ⟨fun pins s σ H Q I h => wpAny_Call_Name_kw (ld_glob I hg hm (PySem.W.callWith_K (h₀ := X.base) I.ok.mod.kin M.kp (thn (ha.run pos pins s σ H _ I h) fun us s1 hh => by
      obtain ⟨vs, H1, I1, r, q⟩ := hh
      exact ⟨I1.kIn, makeW M F (hr.mono hj) tk I1 r q⟩) he hpl) hdb)⟩
theorem pe_methW {pl : Sem Bool} (he : PE X o ta) (c : Cls X.K C) (hm : Meth X.K C m f) (F : Fr X.prog X.w X.K X.mg X.base k f sp) (hr : Room j X.A) (hj : k ≤ j) (tk : Takes X W) (ha : PA X (e :: es) t)
    (hst : starEach (e :: es) X.env = (false, eval e X.env) :: starEach es X.env := by rfl) (hpl : (backTo pos (starEach es X.env)).any (·.1) = false := by rfl)
    (ht : eval (.Call (.Attribute o m apos) (e :: es) [] pos) X.env = (do
      let v ← eval o X.env
      standAt apos.atName
      let (g, first) ← holding [v] (getMethod v m pl)
      callWith pos g first (backTo pos (starEach (e :: es) X.env)) (backToKw pos (keywordEach [] X.env))) := by rfl) :
    PE X (.Call (.Attribute o m apos) (e :: es) [] pos) (tMethW C m sp W ta t) := ⟨fun pins s σ H Q I h => PySem.W.methodCall_KW (pl := pl) (thn (he.run pins s σ H _ I h) fun u s1 hh => by
      obtain ⟨x, H1, I1, rx, a, dx, fs, rfl, ea, l, q⟩ := hh
      obtain rfl : u = Value.ref a := rx
      exact getmeth_ok I1 ea c hm l (PySem.W.callWith_K (first := [.ref a]) (h₀ := X.base) I.ok.mod.kin hm.kp (thn (ha.run pos pins s1 σ H1 _ I1 q) fun us s2 h2 => by
        obtain ⟨vs, H2, I2, r, q2⟩ := h2
        exact ⟨I2.kIn, runW (vs := .ref a :: vs) F (hr.mono hj) I2.env0 tk I2 (.cons rfl r) q2⟩) hst hpl)) ht⟩
theorem pe_methW0 {pl : Sem Bool} (he : PE X o ta) (c : Cls X.K C) (hm : Meth X.K C m f) (F : Fr X.prog X.w X.K X.mg X.base k f sp) (hr : Room j X.A) (hj : k ≤ j) (tk : Takes X W)
    (ht : eval (.Call (.Attribute o m apos) [] [] pos) X.env = (do
      let v ← eval o X.env
      standAt apos.atName
      let (g, first) ← holding [v] (getMethod v m pl)
      callWith pos g first (backTo pos (starEach [] X.env)) (backToKw pos (keywordEach [] X.env))) := by rfl) :
    PE X (.Call (.Attribute o m apos) [] [] pos) (tMethW C m sp W ta tNil) := ⟨fun pins s σ H Q I h => PySem.W.methodCall_KW (pl := pl) (thn (he.run pins s σ H _ I h) fun u s1 hh => by
      obtain ⟨x, H1, I1, rx, a, dx, fs, rfl, ea, l, q⟩ := hh
      obtain rfl : u = Value.ref a := rx
      exact getmeth_ok I1 ea c hm l (PySem.W.callWith_K0 (first := [.ref a]) I1.kIn hm.kp (runW (vs := [.ref a]) F (hr.mono hj) I1.env0 tk I1 (.cons rfl .nil) q))) ht⟩
end
/-! ### operators of own classes -/
/-- a special method of the class at C: its def at f -/
structure Spec (K : PySem.W.Frag) (C : Addr) (m : Str) (f : Addr) : Prop where
  at_ : PySem.W.findIn K (.ref C) m = some (some (.ref f))
  fn : PySem.W.isFn K (.ref f) = true
def tNegW (C : Addr) (sp : Sp) (W : WX) (ta : TE) : TE := fun σ H Q => ta σ H fun x H1 => ∃ a dx fs, x = .ref a ∧ H1 a = some (.ins C dx fs) ∧ sp [.ref a] H1 Q (WE W σ)
/-- not NotImplemented: every value of V is fine -/
def tBinW (C : Addr) (sp : Sp) (W : WX) (ta tb : TE) : TE := fun σ H Q => ta σ H fun x H1 => tb σ H1 fun y H2 => ∃ a b dx dy fs gs, x = .ref a ∧ y = .ref b ∧ H2 a = some (.ins C dx fs) ∧ H2 b = some (.ins C dy gs) ∧ sp [.ref a, .ref b] H2 (fun v H3 => (∃ c, v = .ref c) ∧ Q v H3) (WE W σ)
/-- a == b, a of the own class -/
def rEqO (K : PySem.W.Frag) (C : Addr) (sp : Sp) : R2 := fun x y H Q => ∃ a dx fs tb, x = .ref a ∧ H a = some (.ins C dx fs) ∧ TyX K H y tb ∧ PySem.W.notFirst K C tb = true ∧ sp [.ref a, y] H (fun v H' => (∃ b, v = .bl b) ∧ Q v H') E0
/-- a in b, b of the own class -/
def rInO (C : Addr) (sp : Sp) : R2 := fun x y H Q => ∃ a dx fs, y = .ref a ∧ H a = some (.ins C dx fs) ∧ sp [.ref a, x] H (fun v H' => (∃ b, v = .bl b) ∧ Q v H') E0
def rNotInO (C : Addr) (sp : Sp) : R2 := fun x y H Q => ∃ a dx fs, y = .ref a ∧ H a = some (.ins C dx fs) ∧ sp [.ref a, x] H (fun v H' => ∃ b, v = .bl b ∧ Q (.bl !b) H') E0
section
variable {X : Cx} {CX : CXT} {pins : List (Addr × Obj)} {σ : L2.St} {H : Hp} {s : Shared} {j k : Nat} {f C a dx : Addr} {fs : List (Str × V)} {sp : Sp} {W : WX} {pos : Pos} {ea eb : Expr} {ta tb : TE}
theorem inst_of (I : Inv X pins σ H s) (e : H a = some (.ins C dx fs)) : ∃ ox od, PySem.W.InstAt s.heap a ox C (some od) := by
  obtain ⟨mA, O, _⟩ := ins_get I.hok e
  obtain ⟨od, J, _⟩ := O.look
  exact ⟨_, od, J⟩
theorem pe_negW (S : Spec X.K C "__neg__" f) (F : Fr X.prog X.w X.K X.mg X.base k f sp) (hr : Room j X.A) (hj : k ≤ j) (tk : Takes X W) (ha : PE X ea ta) : PE X (.UnaryOp .USub ea pos) (tNegW C sp W ta) := by
  refine ⟨fun pins s σ H Q I h => ?_⟩
  refine UnaryOp_ (thn (ha.run pins s σ H _ I h) fun u s1 hh => ?_)
  obtain ⟨x, H1, I1, rx, a, dx, fs, rfl, e, q⟩ := hh
  obtain rfl : u = Value.ref a := rx
  obtain ⟨ox, od, J⟩ := inst_of I1 e
  obtain ⟨m, fr⟩ := I1.fr
  exact PySem.W.ksp_neg fr I1.ok.mod.kin J S.at_ S.fn (runW (vs := [.ref a]) F (hr.mono hj) I1.env0 tk I1 (.cons rfl .nil) q)
theorem pe_binW {op : Operator} (S : Spec X.K C (PySem.dunder op.info.2) f) (hc : PySem.W.selfFirst X.K C = true) (F : Fr X.prog X.w X.K X.mg X.base k f sp) (hr : Room j X.A) (hj : k ≤ j) (tk : Takes X W) (ha : PE X ea ta) (hb : PE X eb tb) :
    PE X (.BinOp ea op eb pos) (tBinW C sp W ta tb) := by
  refine ⟨fun pins s σ H Q I h => ?_⟩
  refine wpAny_BinOp (binT ha hb I h fun v u s2 x y H2 I2 rx ry q => ?_)
  obtain ⟨a, b, dx, dy, fs, gs, rfl, rfl, e1, e2, q2⟩ := q
  obtain rfl : v = Value.ref a := rx
  obtain rfl : u = Value.ref b := ry
  obtain ⟨ox, od, J⟩ := inst_of I2 e1
  obtain ⟨oy, oe, J2⟩ := inst_of I2 e2
  obtain ⟨m, fr⟩ := I2.fr
  refine PySem.W.binop_K fr I2.ok.mod.kin J J2.type hc S.at_ S.fn (thn (runW (vs := [.ref a, .ref b]) F (hr.mono hj) I2.env0 tk I2 (.cons rfl (.cons rfl .nil)) q2) fun r s3 z => ?_)
  obtain ⟨v3, H3, I3, r3, ⟨c, rfl⟩, q3⟩ := z
  obtain rfl : r = Value.ref c := r3
  exact ⟨.ref c, _, I3, rfl, q3⟩
theorem op_eqO (K : PySem.W.Frag) (S : Spec X.K C "__eq__" f) (F : FnR X.prog X.w X.K X.mg X.base CX k f sp) (hx : Passes CX X E0) (hr : Room j X.A) (hj : k ≤ j) (hK : X.K = K := by rfl) : OpR X (compareOp .Eq) (rEqO K C sp) := by
  subst hK
  intro pins s σ H x y v u Q I rx ry h
  obtain ⟨a, dx, fs, tb, rfl, e, ty, hn, q⟩ := h
  obtain rfl : v = Value.ref a := rx
  obtain ⟨ox, od, J⟩ := inst_of I e
  obtain ⟨m, fr⟩ := I.fr
  obtain ⟨Pq, kx, hp, _⟩ := kit_of I ry ty
  refine PySem.W.cmp_ofEq (PySem.W.cmp_K hr.units0 fr I.ok.mod.kin J (kx.ty _ _ I.kIn hp) hn S.at_ S.fn (wpAny_call (codeAny_mono (run_fnR (us := [.ref a, u]) (vs := [.ref a, y]) F (hr.mono hj) hx I (.cons rfl (.cons ry .nil)) q) fun r s3 z => ?_)))
  cases r with
  | error e => exact z
  | ok fl =>
    cases fl with
    | ret w =>
      obtain ⟨v3, H3, I3, r3, ⟨b, rfl⟩, q3⟩ := z
      obtain rfl : w = Value.bool b := r3
      exact ⟨.bl b, _, I3, rfl, q3⟩
    | next => exact False.elim z
    | brk => exact False.elim z
    | cont => exact False.elim z
theorem op_inO (S : Spec X.K C "__contains__" f) (F : FnR X.prog X.w X.K X.mg X.base CX k f sp) (hx : Passes CX X E0) (hr : Room j X.A) (hj : k ≤ j) : OpR X (compareOp .In) (rInO C sp) := by
  intro pins s σ H x y v u Q I rx ry h
  obtain ⟨a, dx, fs, rfl, e, q⟩ := h
  obtain rfl : u = Value.ref a := ry
  obtain ⟨ox, od, J⟩ := inst_of I e
  obtain ⟨m, fr⟩ := I.fr
  refine PySem.W.in_K fr I.ok.mod.kin J S.at_ S.fn (wpAny_call (codeAny_mono (run_fnR (us := [.ref a, v]) (vs := [.ref a, x]) F (hr.mono hj) hx I (.cons rfl (.cons rx .nil)) q) fun r s3 z => ?_))
  cases r with
  | error e => exact z
  | ok fl =>
    cases fl with
    | ret w =>
      obtain ⟨v3, H3, I3, r3, ⟨b, rfl⟩, q3⟩ := z
      obtain rfl : w = Value.bool b := r3
      exact wpAny_truthy_bool ⟨.bl b, _, I3, rfl, q3⟩
    | next => exact False.elim z
    | brk => exact False.elim z
    | cont => exact False.elim z
theorem op_notInO (S : Spec X.K C "__contains__" f) (F : FnR X.prog X.w X.K X.mg X.base CX k f sp) (hx : Passes CX X E0) (hr : Room j X.A) (hj : k ≤ j) : OpR X (compareOp .NotIn) (rNotInO C sp) := by
  intro pins s σ H x y v u Q I rx ry h
  obtain ⟨a, dx, fs, rfl, e, q⟩ := h
  obtain rfl : u = Value.ref a := ry
  obtain ⟨ox, od, J⟩ := inst_of I e
  obtain ⟨m, fr⟩ := I.fr
  refine PySem.W.notIn_K fr I.ok.mod.kin J S.at_ S.fn (wpAny_call (codeAny_mono (run_fnR (us := [.ref a, v]) (vs := [.ref a, x]) F (hr.mono hj) hx I (.cons rfl (.cons rx .nil)) q) fun r s3 z => ?_))
  cases r with
  | error e => exact z
  | ok fl =>
    cases fl with
    | ret w =>
      obtain ⟨v3, H3, I3, r3, b, rfl, q3⟩ := z
      obtain rfl : w = Value.bool b := r3
      exact wpAny_truthy_bool ⟨.bl !b, _, I3, rfl, q3⟩
    | next => exact False.elim z
    | brk => exact False.elim z
    | cont => exact False.elim z
end
/-! ### by keywords; of the class -/
/-- a def at f, called by n values and the keywords ks -/
def FrK (P : Program) (w : World) (K : PySem.W.Frag) (mg : Str → Option Value) (base : Heap) (k : Nat) (f : Addr) (n : Nat) (ks : List Str) (gV : List V → List V → List V) (sp : Sp) : Prop :=
  ∀ (A : Around) (outer : List Env) (s : Shared) (H : Hp) (us ws : List Value) (vs zs : List V) (Q : VK) (E : XK), Room k A → Env0 P w K mg base A outer s H → Vals vs us → Vals zs ws → vs.length = n → zs.length = ks.length → sp (gV vs zs) H Q E →
    codeAny (model P w) A (.call (.ref f) ⟨us, ks.zip ws⟩) (CR (Cxx P w) outer P w H s Q E) s
theorem frK_of {P : Program} {w : World} {K : PySem.W.Frag} {mg : Str → Option Value} {base : Heap} {k n : Nat} {f : Addr} {fd : FuncData} {ps ks : List Str} {g : List Value → List Value → List Value} {gV : List V → List V → List V} {sp : Sp} (F : FnOk P w K mg base (Cxx P w) k f fd ps sp) (hb : KBn K fd ps n ks g gV) :
    FrK P w K mg base k f n ks gV sp := fun A outer s H us ws vs zs Q E hr e0 r rz l1 l2 h =>
  F.run A outer s H ⟨us, ks.zip ws⟩ (g us ws) (gV vs zs) Q E hr e0 (hb.to s us ws (e0.mod.kin.keeps fun b o e => (e0.bs b o e).1) (r.length.symm.trans l1) (rz.length.symm.trans l2)) (hb.rel r rz) h
def MakeG (C : Addr) (sp : Sp) (gV : List V → List V → List V) (E : XK) (Q : VK) (zs : List V) (H : Hp) : Prop := ∀ x dx, H x = none → H dx = none → dx ≠ x → sp (gV [.ref x] zs) (upd (upd H dx (.own x)) x (.ins C dx [])) (fun v H3 => v = .non ∧ Q (.ref x) H3) E
theorem makeG_of {C : Addr} {sp : Sp} {gV : List V → List V → List V} {E : XK} {Q : VK} {zs vs : List V} {H : Hp} (e : ∀ x : Addr, gV [.ref x] zs = V.ref x :: vs) (h : MakeK C sp E Q vs H) : MakeG C sp gV E Q zs H := fun x dx h1 h2 h3 => by
  rw [e x]
  exact h x dx h1 h2 h3
def tMakeKW (C : Addr) (m : Nat) (sp : Sp) (gV : List V → List V → List V) (W : WX) (tk : TA) : TE := fun σ H Q => tk σ H fun zs H2 => zs.length = m ∧ MakeG C sp gV (WE W σ) Q zs H2
def tCMethW (C : Addr) (sp : Sp) (W : WX) (ta : TE) (t : TA) : TE := fun σ H Q => ta σ H fun x H1 => x = .ref C ∧ t σ H1 fun vs H2 => sp (.ref C :: vs) H2 Q (WE W σ)
def tCMethKW (C : Addr) (m : Nat) (sp : Sp) (gV : List V → List V → List V) (W : WX) (ta : TE) (t : TA) : TE := fun σ H Q => ta σ H fun x H1 => x = .ref C ∧ t σ H1 fun zs H2 => zs.length = m ∧ sp (gV [.ref C] zs) H2 Q (WE W σ)
def tMakeLW (i : Nat) (C : Addr) (sp : Sp) (W : WX) (t : TA) : TE := fun σ H Q => σ[i]? = some (some (.ref C)) ∧ t σ H fun vs H1 => MakeK C sp (WE W σ) Q vs H1
section
variable {X : Cx} {pins : List (Addr × Obj)} {σ : L2.St} {H : Hp} {s : Shared} {Q : VK} {j k i : Nat} {f C p g : Addr} {sp : Sp} {W : WX} {x m : Str} {mc : Value} {p0 pos apos : Pos} {e o : Expr} {es : List Expr} {ta : TE} {t : TA} {ks : List Str} {gV : List V → List V → List V} {kws : List Keyword} {tkw : TA} {pl : Sem Bool}
theorem makeKW {zs : List V} {ws : List Value} (M : Mk X.K C f) (F : FrK X.prog X.w X.K X.mg X.base k f 1 ks gV sp) (hr : Room (k + 1) X.A) (tk : Takes X W) (I : Inv X pins σ H s) (rz : Vals zs ws) (l2 : zs.length = ks.length)
    (h : ∀ x dx, H x = none → H dx = none → dx ≠ x → sp (gV [.ref x] zs) (upd (upd H dx (.own x)) x (.ins C dx [])) (fun v H2 => v = .non ∧ Q (.ref x) H2) (WE W σ)) :
    wpAny (model X.prog X.w) X.A (call (.ref C) [] (ks.zip ws)) (EP X pins σ Q) X.xe s := by
  have hq := h (s.heap.objs.size + 1) s.heap.objs.size (I.hok.fresh (Nat.le_succ _)) (I.hok.fresh (Nat.le_refl _)) (Nat.ne_of_lt (Nat.lt_succ_self _))
  have I2 := Inv.made (C := C) I
  have r2 : Vals [V.ref (s.heap.objs.size + 1)] [Value.ref (s.heap.objs.size + 1)] := .cons rfl .nil
  refine wpAny_call (make_map (f := f) I.kIn M.makes M.init (beq_iff_eq.mp M.fn) (codeAny_mono (F _ X.stack _ _ [Value.ref (s.heap.objs.size + 1)] ws _ zs _ (WE W σ) (hr.make C [] (ks.zip ws)) (I2.env0.make C [] (ks.zip ws)) r2 rz rfl l2 hq) fun res s' hq' => ?_))
  cases res with
  | error e => exact passAt tk σ pins _ _ e s' I2 hq'
  | ok fl =>
    cases fl with
    | ret u =>
      obtain ⟨v, H', I3, rv, ev, q3⟩ := I2.after hq'
      subst ev
      exact ⟨rv, ⟨V.ref (s.heap.objs.size + 1), H', I3, rfl, q3⟩⟩
    | next => exact False.elim hq'
    | brk => exact False.elim hq'
    | cont => exact False.elim hq'
theorem pe_makeKW (M : Mk X.K C f) (F : FrK X.prog X.w X.K X.mg X.base k f 1 ks gV sp) (hm : X.mg x = some (.ref C)) (hr : Room j X.A) (hj : k + 1 ≤ j) (hg : Gl X x) (tk : Takes X W) (hkw : PK X kws tkw)
    (hall : (backToKw pos (keywordEach kws X.env)).all (·.1.isSome) = true := by rfl) (hks : (backToKw pos (keywordEach kws X.env)).filterMap (·.1) = ks := by rfl) (hdb : (x == ("__debug__" : Str)) = false := by decide)
    (hpl : ((backTo pos (starEach [] X.env)).any (·.1) || (backToKw pos (keywordEach kws X.env)).any (·.1.isNone)) = false := by rfl) : PE X (.Call (.Name x p0) [] kws pos) (tMakeKW C ks.length sp gV W tkw) :=
  ⟨fun pins s σ H Q I h => wpAny_Call_Name_kw (ld_glob I hg hm (PySem.W.callWith_KW0 (h₀ := X.base) I.ok.mod.kin M.kp hall (thn (hkw.run pos pins s σ H _ I h) fun ws s2 hh => by
    obtain ⟨zs, H2, I2, rz, l2, q2⟩ := hh
    refine ⟨I2.kIn, ?_⟩
    rw [hks]
    exact makeKW M F (hr.mono hj) tk I2 rz l2 q2) hpl) hdb)⟩
/-- cls(e, ..), the slot i holds the class at C -/
theorem pe_makeLW (M : Mk X.K C f) (F : Fr X.prog X.w X.K X.mg X.base k f sp) (hN : X.N[i]? = some x) (hv : Vis X.env.scope x) (hr : Room j X.A) (hj : k + 1 ≤ j) (tk : Takes X W) (ha : PA X (e :: es) t)
    (hdb : (x == ("__debug__" : Str)) = false := by decide) (hcd : (x == ("__classdict__" : Str)) = false := by decide) (he : starEach (e :: es) X.env = (false, eval e X.env) :: starEach es X.env := by rfl) (hpl : (backTo pos (starEach es X.env)).any (·.1) = false := by rfl) :
    PE X (.Call (.Name x p0) (e :: es) [] pos) (tMakeLW i C sp W t) := by
  refine ⟨fun pins s σ H Q I h => ?_⟩
  obtain ⟨hs, ht⟩ := h
  refine wpAny_Call_Name_kw (thn ((pe_var (pos := p0) hN hv hdb hcd).run pins s σ H (fun v H1 => v = .ref C ∧ H1 = H) I ⟨.ref C, hs, rfl, rfl⟩) fun u s1 ⟨v, H1, I1, r1, q1⟩ => ?_)
  obtain ⟨rfl, rfl⟩ := q1
  cases r1
  refine PySem.W.callWith_K (h₀ := X.base) I.ok.mod.kin M.kp (thn (ha.run pos pins s1 σ _ _ I1 ht) fun us s2 ⟨vs, H2, I2, r, q⟩ => ⟨I2.kIn, ?_⟩) he hpl
  exact makeW M F (hr.mono hj) tk I2 r q
theorem pe_cmethW (he : PE X o ta) (r : ClX.CRead X.K C mc) (c : ClX.CMet X.K C mc m p g) (F : Fr X.prog X.w X.K X.mg X.base k g sp) (hr : Room j X.A) (hj : k ≤ j) (tk : Takes X W) (ha : PA X (e :: es) t)
    (hst : starEach (e :: es) X.env = (false, eval e X.env) :: starEach es X.env := by rfl) (hpl : (backTo pos (starEach es X.env)).any (·.1) = false := by rfl)
    (ht : eval (.Call (.Attribute o m apos) (e :: es) [] pos) X.env = (do
      let v ← eval o X.env
      standAt apos.atName
      let (f1, first) ← holding [v] (getMethod v m pl)
      callWith pos f1 first (backTo pos (starEach (e :: es) X.env)) (backToKw pos (keywordEach [] X.env))) := by rfl) : PE X (.Call (.Attribute o m apos) (e :: es) [] pos) (tCMethW C sp W ta t) := by
  refine ⟨fun pins s σ H Q I h => PySem.W.methodCall_KW (pl := pl) (thn (he.run pins s σ H _ I h) fun u s1 hh => ?_) ht⟩
  obtain ⟨x, H1, I1, rx, rfl, q⟩ := hh
  obtain rfl : u = Value.ref C := rx
  refine ClX.getmethcm_ok I1 r c fun s2 I2 => ClX.callwith_cm I2 (ClX.base_none I1 (Nat.le_refl _)) c.fi (thn (ha.run pos _ s2 σ H1 _ I2 q) fun us s3 h3 => ?_) hst hpl
  obtain ⟨vs, H2, I3, rv, q2⟩ := h3
  refine ⟨⟨ClX.pin_at I3, I3.kIn⟩, thn (wpAny_call (PySem.W.method_call (ClX.pin_at I3) (codeAny_mono (F X.A X.stack s3 H2 (.ref C :: us) (.ref C :: vs) Q (WE W σ) (hr.mono hj) I3.env0 (.cons rfl rv) q2) fun res s' hq => ?_))) fun _ _ y => y⟩
  cases res with
  | error e => exact passAt tk σ _ H2 s3 e s' I3 hq
  | ok fl =>
    cases fl with
    | ret u => exact ClX.unpinE (I3.after hq)
    | next => exact False.elim hq
    | brk => exact False.elim hq
    | cont => exact False.elim hq
theorem pe_cmethKW (he : PE X o ta) (r : ClX.CRead X.K C mc) (c : ClX.CMet X.K C mc m p g) (F : FrK X.prog X.w X.K X.mg X.base k g 1 ks gV sp) (hr : Room j X.A) (hj : k ≤ j) (tk : Takes X W) (hkw : PK X kws tkw)
    (hall : (backToKw pos (keywordEach kws X.env)).all (·.1.isSome) = true := by rfl) (hks : (backToKw pos (keywordEach kws X.env)).filterMap (·.1) = ks := by rfl)
    (hpl : ((backTo pos (starEach [] X.env)).any (·.1) || (backToKw pos (keywordEach kws X.env)).any (·.1.isNone)) = false := by rfl)
    (ht : eval (.Call (.Attribute o m apos) [] kws pos) X.env = (do
      let v ← eval o X.env
      standAt apos.atName
      let (f1, first) ← holding [v] (getMethod v m pl)
      callWith pos f1 first (backTo pos (starEach [] X.env)) (backToKw pos (keywordEach kws X.env))) := by rfl) : PE X (.Call (.Attribute o m apos) [] kws pos) (tCMethKW C ks.length sp gV W ta tkw) := by
  refine ⟨fun pins s σ H Q I h => PySem.W.methodCall_KW (pl := pl) (thn (he.run pins s σ H _ I h) fun u s1 hh => ?_) ht⟩
  obtain ⟨x, H1, I1, rx, rfl, q⟩ := hh
  obtain rfl : u = Value.ref C := rx
  refine ClX.getmethcm_ok I1 r c fun s2 I2 => PySem.W.callWith_of hpl (PySem.W.keeps_M (self := .ref C) c.fi) (evalArgs_kw2_nil hall (thn (hkw.run pos _ s2 σ H1 _ I2 q) fun ws s3 h3 => ?_))
  obtain ⟨zs, H2, I3, rz, l2, q2⟩ := h3
  rw [hks]
  refine ⟨⟨ClX.pin_at I3, I3.kIn⟩, wpAny_call (PySem.W.method_call (ClX.pin_at I3) (codeAny_mono (F X.A X.stack s3 H2 [.ref C] ws [.ref C] zs Q (WE W σ) (hr.mono hj) I3.env0 (.cons rfl .nil) rz rfl l2 q2) fun res s' hq => ?_))⟩
  cases res with
  | error e => exact passAt tk σ _ H2 s3 e s' I3 hq
  | ok fl =>
    cases fl with
    | ret u => exact ClX.unpinE (I3.after hq)
    | next => exact False.elim hq
    | brk => exact False.elim hq
    | cont => exact False.elim hq
end
/-! ### a property; a try; more -/
theorem frX {P : Program} {w : World} {K : PySem.W.Frag} {mg : Str → Option Value} {base : Heap} {k : Nat} {f : Addr} {fd : FuncData} {ps : List Str} {sp : Sp} (F : FnOk P w K mg base CX0 k f fd ps sp) (hb : Binds K fd ps []) : Fr P w K mg base k f sp := by
  intro A outer s H us vs Q E hr e0 r h
  have F2 := (F.raw hb (dvs := []) .nil) A outer s H us vs Q E hr e0 r (by show sp (vs ++ []) H Q E; rw [List.append_nil]; exact h)
  refine codeAny_mono F2 fun res s' hq => ?_
  cases res with
  | error e => exact False.elim hq
  | ok fl => cases fl <;> exact hq
theorem frC {P : Program} {w : World} {K : PySem.W.Frag} {mg : Str → Option Value} {base : Heap} {k : Nat} {f : Addr} {fd : FuncData} {ps : List Str} {sp : Sp} (F : FnOk P w K mg base (Cxx P w) k f fd ps sp) (hb : Binds K fd ps []) : Fr P w K mg base k f sp := by
  intro A outer s H us vs Q E hr e0 r h
  exact (F.raw hb (dvs := []) .nil) A outer s H us vs Q E hr e0 r (by show sp (vs ++ []) H Q E; rw [List.append_nil]; exact h)
def tPropR (C : Addr) (sp : Sp) (ta : TE) : TE := fun σ H Q => ta σ H fun x H1 => ∃ a dx fs, x = .ref a ∧ H1 a = some (.ins C dx fs) ∧ sp [.ref a] H1 Q E0
theorem pe_propR {X : Cx} {j k : Nat} {C p g : Addr} {f : Str} {sp : Sp} {e : Expr} {pos : Pos} {ta : TE} (he : PE X e ta) (c : Cls X.K C) (hp : PropOf X.K C f p g) (F : Fr X.prog X.w X.K X.mg X.base k g sp) (hr : Room j X.A) (hj : k + 1 ≤ j)
    (hab : attributeBase e f X.env (eval e X.env) = eval e X.env) : PE X (.Attribute e f pos) (tPropR C sp ta) := by
  refine ⟨fun pins s σ H Q I h => attr_of hab (thn (he.run pins s σ H _ I h) fun u s1 hh => ?_)⟩
  obtain ⟨x, H1, I1, rx, a, dx, fs, rfl, ea, q⟩ := hh
  obtain rfl : u = Value.ref a := rx
  obtain ⟨mA, O, _, _, _, _⟩ := ins_get I1.hok ea
  obtain ⟨od, J, _⟩ := O.look
  obtain ⟨rest, hrec⟩ := hp.rec_
  have I2 := I1.tok (s1.toks + 1)
  obtain ⟨cd, hc, _⟩ := PySem.W.any_some c.hd
  have hc' : (PySem.W.clsIn X.K C).isSome = true := by rw [hc]; rfl
  refine PySem.W.get_bind I1.kIn J (PySem.W.plainGet_of (c.get f)).1 (PySem.W.findObj_data hc' hp.at_ hp.get hp.tak) (PySem.W.plainGet_of (c.get f)).2 (wpAny_call (PySem.W.prop_get (s := { s1 with toks := s1.toks + 1 }) I1.kIn hrec ?_))
  refine codeAny_mono (F X.A.in1 X.stack { s1 with toks := s1.toks + 1 } H1 [.ref a] [.ref a] Q E0 (hr.mono hj).in1 I2.env0.in1 (.cons rfl .nil) q) fun res s' hq => ?_
  cases res with
  | error er =>
    obtain ⟨_, _, _, _, _, _, _, _, _, _, _, _, z⟩ := hq
    exact z.elim
  | ok fl =>
    cases fl with
    | ret u =>
      obtain ⟨v, H', I3, rv, q3⟩ := I2.after hq
      show wpAny _ _ (handedOut u) _ _ _
      rw [PySem.W.handedOut_of (handed_of rv)]
      exact wpAny_pure ⟨v, H', I3, rv, q3⟩
    | next => exact False.elim hq
    | brk => exact False.elim hq
    | cont => exact False.elim hq
theorem pe_fldK (K : PySem.W.Frag) {X : Cx} {e : Expr} {f : Str} {pos : Pos} {ta : TE} (he : PE X e ta) (hb : attributeBase e f X.env (eval e X.env) = eval e X.env) (hK : X.K = K := by rfl) : PE X (.Attribute e f pos) (tFld K ta f) := hK ▸ pe_fld he hb
theorem ps_fldK (K : PySem.W.Frag) {X : Cx} {o value : Expr} {f : Str} {pos pos' : Pos} {ta tv : TE} (ha : PE X o ta) (hv : PE X value tv) (hs : swapsWith value (some (.Attribute o f pos')) pos.line X.env = pure false) (hK : X.K = K := by rfl) : PS X (.Assign [.Attribute o f pos'] value pos) (sFld K ta tv f) := hK ▸ ps_fld ha hv hs
def tTry (K : PySem.W.Frag) (Wout : WX) (l : List Xs.Cl) (tb : WX → TS) : TS := fun D σ H => tb (Xs.wG K Wout D l) D σ H
theorem ps_tryT (K : PySem.W.Frag) {X : Cx} {body : List Stmt} {h0 : ExceptHandler} {hds : List ExceptHandler} {l : List Xs.Cl} {pos : Pos} {tb : WX → TS} {Wout : WX} (hs : X.stack = X.env :: X.outer) (hf : X.env.frame = some X.env.locals) (tk : Takes X Wout)
    (hb : ∀ (W : WX) (pn : List (Addr × Obj)) (xe : Value → Shared → Prop), Takes (X.tr pn xe) W → PassesOwn (model X.prog X.w) X.A X.env xe → PSs (X.tr pn xe) body (tb W)) (hh : Xs.ClsOk X (h0 :: hds) l) (hK : X.K = K := by rfl) :
    PS X (.Try body (h0 :: hds) [] [] pos) (tTry K Wout l tb) := hK ▸ Xs.ps_tryG hs hf tk hb hh
section
variable {X : Cx}
theorem op_eqN (K : PySem.W.Frag) (hu : X.A.units + 64 < cLine) (hK : X.K = K := by rfl) : OpR X (compareOp .Eq) (Vc.rEqU K) := hK ▸ OpR.or op_eq (op_eqD hu)
theorem op_neN (K : PySem.W.Frag) (hu : X.A.units + 64 < cLine) (hK : X.K = K := by rfl) : OpR X (compareOp .NotEq) (Vc.rNeU K) := hK ▸ OpR.or op_ne (op_neD hu)
def rSortedU (K : PySem.W.Frag) : List V → Hp → VK → Prop := fun vs H Q => rSorted K vs H Q ∨ rSortedS K vs H Q
theorem call_sortedU (K : PySem.W.Frag) (hK : X.K = K := by rfl) : CallR X (.builtin "sorted") (rSortedU K) := hK ▸ CallR.or cr_sorted cr_sortedS
end
section
variable {K : PySem.W.Frag} {σ σ' : L2.St} {H H' : Hp} {ta tb te : TE} {t : TA} {x y z v : V} {D : Ends} {Q : VK} {C : Addr} {sp : Sp} {W : WX} {f : Str}
theorem w_call (h : t σ H fun vs H1 => sp vs H1 Q (WE W σ)) : tCallW sp W t σ H Q := h
theorem w_make (h : t σ H fun vs H1 => MakeK C sp (WE W σ) Q vs H1) : tMakeW C sp W t σ H Q := h
theorem w_makeL {i : Nat} (e : σ[i]? = some (some (.ref C))) (h : t σ H fun vs H1 => MakeK C sp (WE W σ) Q vs H1) : tMakeLW i C sp W t σ H Q := ⟨e, h⟩
theorem w_meth {m : Str} (h : ta σ H fun x H1 => ∃ a dx fs, x = .ref a ∧ H1 a = some (.ins C dx fs) ∧ fs.lookup m = none ∧ t σ H1 fun vs H2 => sp (x :: vs) H2 Q (WE W σ)) : tMethW C m sp W ta t σ H Q := h
theorem w_methAt {m : Str} {a dx : Addr} {fs : List (Str × V)} {T : Prop} (e : H a = some (.ins C dx fs)) (e2 : fs.lookup m = none) (h : T) : ∃ a' dx fs, V.ref a = .ref a' ∧ H a' = some (.ins C dx fs) ∧ fs.lookup m = none ∧ T := ⟨a, dx, fs, rfl, e, e2, h⟩
theorem w_neg (h : ta σ H fun x H1 => ∃ a dx fs, x = .ref a ∧ H1 a = some (.ins C dx fs) ∧ sp [.ref a] H1 Q (WE W σ)) : tNegW C sp W ta σ H Q := h
theorem w_bin (h : ta σ H fun x H1 => tb σ H1 fun y H2 => ∃ a b dx dy fs gs, x = .ref a ∧ y = .ref b ∧ H2 a = some (.ins C dx fs) ∧ H2 b = some (.ins C dy gs) ∧ sp [.ref a, .ref b] H2 (fun v H3 => (∃ c, v = .ref c) ∧ Q v H3) (WE W σ)) : tBinW C sp W ta tb σ H Q := h
theorem w_makeK {m : Nat} {gV : List V → List V → List V} (h : t σ H fun zs H2 => zs.length = m ∧ MakeG C sp gV (WE W σ) Q zs H2) : tMakeKW C m sp gV W t σ H Q := h
theorem w_cmeth (h : ta σ H fun x H1 => x = .ref C ∧ t σ H1 fun vs H2 => sp (.ref C :: vs) H2 Q (WE W σ)) : tCMethW C sp W ta t σ H Q := h
theorem w_cmethK {m : Nat} {gV : List V → List V → List V} (h : ta σ H fun x H1 => x = .ref C ∧ t σ H1 fun zs H2 => zs.length = m ∧ sp (gV [.ref C] zs) H2 Q (WE W σ)) : tCMethKW C m sp gV W ta t σ H Q := h
theorem w_prop (h : ta σ H fun x H1 => ∃ a dx fs, x = .ref a ∧ H1 a = some (.ins C dx fs) ∧ sp [.ref a] H1 Q E0) : tPropR C sp ta σ H Q := h
theorem w_fld (h : ta σ H fun x H1 => ∃ a C dx fs v, x = .ref a ∧ H1 a = some (.ins C dx fs) ∧ Cls K C ∧ NoAttr K C f ∧ fs.lookup f = some v ∧ Q v H1) : tFld K ta f σ H Q := h
theorem w_fldAt {a dx : Addr} {fs : List (Str × V)} (e : H a = some (.ins C dx fs)) (c : Cls K C) (n : NoAttr K C f) (l : fs.lookup f = some v) (h : Q v H) : ∃ a' C dx fs v', V.ref a = .ref a' ∧ H a' = some (.ins C dx fs) ∧ Cls K C ∧ NoAttr K C f ∧ fs.lookup f = some v' ∧ Q v' H := ⟨a, C, dx, fs, v, rfl, e, c, n, l, h⟩
theorem w_sfld (h : tb σ H fun y H1 => ta σ H1 fun x H2 => ∃ a C dx fs, x = .ref a ∧ H2 a = some (.ins C dx fs) ∧ Cls K C ∧ NoAttr K C f ∧ fs.length < 1000 ∧ D.nx σ (upd H2 a (.ins C dx (putF f y fs)))) : sFld K ta tb f D σ H := h
theorem w_xf {a C : Addr} {cls : Value} {d : Option Addr} (h : te σ H fun x H1 => x = .ref a ∧ cls = .ref C ∧ ∃ (dd : Addr) (fs : List (Str × V)) (v : V), d = some dd ∧ H1 dd = some (.xd fs) ∧ fs.lookup f = some v ∧ Q v H1) : tXf a cls d C f te σ H Q := h
theorem w_xfAt {a C dd : Addr} {fs : List (Str × V)} (e : H dd = some (.xd fs)) (l : fs.lookup f = some v) (h : Q v H) : V.ref a = .ref a ∧ Value.ref C = .ref C ∧ ∃ (dd' : Addr) (fs : List (Str × V)) (v : V), some dd = some dd' ∧ H dd' = some (.xd fs) ∧ fs.lookup f = some v ∧ Q v H := ⟨rfl, rfl, dd, fs, v, rfl, e, l, h⟩
theorem w_raise {flds : List Str} (h : t σ H fun vs H1 => Xs.RaiseK C flds (fun cls d H' => W cls d σ H') vs H1) : Xs.tRaise C flds W t D σ H := h
theorem w_try {Wout : WX} {l : List Xs.Cl} {tb : WX → TS} (h : tb (Xs.wG K Wout D l) D σ H) : tTry K Wout l tb D σ H := h
theorem w_hit {Wout : WX} {k : Xs.Cl} {l : List Xs.Cl} {cls : Value} {d : Option Addr} (h : PySem.W.exmOne K cls k.c = some true) (q : ∀ a, H a = none → k.wish D cls d a σ H) : WE (Xs.wG K Wout D (k :: l)) σ cls d H := ⟨true, h, fun _ => q, fun z => by cases z⟩
theorem w_miss {Wout : WX} {k : Xs.Cl} {l : List Xs.Cl} {cls : Value} {d : Option Addr} (h : PySem.W.exmOne K cls k.c = some false) (q : WE (Xs.wG K Wout D l) σ cls d H) : WE (Xs.wG K Wout D (k :: l)) σ cls d H := ⟨false, h, (fun z => by cases z), fun _ => q⟩
theorem w_wishAs {c : Value} {i : Nat} {ts : Addr → Value → Option Addr → TS} {cls : Value} {d : Option Addr} {a : Addr} (e : σ.set i (some (.ref a)) = σ') (h : ts a cls d (Xs.goneE D i) σ' H) : Xs.Cl.wish ⟨c, some i, ts⟩ D cls d a σ H := by
  subst e
  exact h
theorem w_wish {c : Value} {ts : Addr → Value → Option Addr → TS} {cls : Value} {d : Option Addr} {a : Addr} (h : ts a cls d D σ H) : Xs.Cl.wish ⟨c, none, ts⟩ D cls d a σ H := h
theorem w_gone {i : Nat} (e : σ.set i none = σ') (h : D.nx σ' H) : (Xs.goneE D i).nx σ H := by
  subst e
  exact h
theorem w_and {T : Prop} (h : T) : V.ref C = .ref C ∧ T := ⟨rfl, h⟩
end
end Ow

set_option Elab.async false
set_option linter.all false
set_option maxRecDepth 100000
set_option maxHeartbeats 4000000
/-! facts of classes, for the end -/
namespace Xe
open PySem PySem.Spec PyProof.Rows L2
section
variable {K : PySem.W.Frag} {C D : Addr} {t : Value} {b : Bool}
theorem cls_sub (iC : PySem.W.isClsIn K D = true) (tC : PySem.W.typeIn K (.ref D) = some (.type "type")) (s : PySem.W.subIn K t (.ref D) = some b) : PySem.W.kitCls K t (.ref D) = some b := by
  have i : (PySem.W.clsIn K D).isSome = true := iC
  show (if ((PySem.W.clsIn K D).isSome && PySem.W.typeIn K (.ref D) == some (.type "type")) = true then PySem.W.subIn K t (.ref D) else none) = some b
  rw [i, tC, s]
  exact if_pos (by decide)
theorem kit_sub (h0 : (t == Value.ref D) = false) (iC : PySem.W.isClsIn K D = true) (tC : PySem.W.typeIn K (.ref D) = some (.type "type")) (s : PySem.W.subIn K t (.ref D) = some b) : PySem.W.kitOne K t (.ref D) = some b := by
  unfold PySem.W.kitOne
  rw [h0, if_neg (by decide)]
  exact cls_sub iC tC s
theorem kit_self : PySem.W.kitOne K (.ref C) (.ref C) = some true := if_pos (by simp)
theorem exm_sub (eC : PySem.W.subIn K (.ref D) (.type "BaseException") = some true) (iC : PySem.W.isClsIn K D = true) (tC : PySem.W.typeIn K (.ref D) = some (.type "type")) (s : PySem.W.subIn K t (.ref D) = some b) : PySem.W.exmOne K t (.ref D) = some b := by
  unfold PySem.W.exmOne
  rw [eC, if_pos (by decide)]
  exact cls_sub iC tC s
theorem no_of0 : ∀ f ∈ ([] : List Str), PySem.W.findIn K (.ref C) f = some none := fun f h => by cases h
theorem no_of1 {a : Str} (h1 : PySem.W.findIn K (.ref C) a = some none) : ∀ f ∈ [a], PySem.W.findIn K (.ref C) f = some none := fun f h => by
  rw [List.mem_singleton] at h
  rw [h]
  exact h1
theorem no_of2 {a c : Str} (h1 : PySem.W.findIn K (.ref C) a = some none) (h2 : PySem.W.findIn K (.ref C) c = some none) : ∀ f ∈ [a, c], PySem.W.findIn K (.ref C) f = some none := fun f h => by
  rcases List.mem_cons.mp h with h | h
  · rw [h]
    exact h1
  · exact no_of1 h2 f h
theorem sup_binds {fd : FuncData} {ps : List Str} (h : ∀ us : List Value, us.length = ps.length → bindArgs fd ⟨us, []⟩ = pure (ps.zip us)) : Binds K fd ps [] := fun s us _ hl => by
  rw [List.append_nil] at hl ⊢
  exact .of_eq (h us hl)
theorem lookup_mem {l : List (Str × NameKind)} {x : Str} {k : NameKind} (h : l.lookup x = some k) : (x, k) ∈ l := by
  induction l with
  | nil => cases h
  | cons p r ih =>
    rw [List.lookup_cons] at h
    split at h
    · rename_i e
      cases h
      rw [beq_iff_eq.mp e]
      exact List.mem_cons_self
    · exact List.mem_cons_of_mem _ (ih h)
theorem free_by {sc : Scope} (h : (sc.names.all fun p => p.2 != .free || p.1 == ("__class__" : Str)) = true) : ∀ x, sc.names.lookup x = some .free → x = "__class__" := fun x e => by
  have := List.all_eq_true.mp h _ (lookup_mem e)
  simpa using this
theorem nocell_by {sc : Scope} (h : (sc.names.all fun p => p.2 != .cell) = true) : ∀ x, sc.names.lookup x ≠ some .cell := fun x e => by
  have := List.all_eq_true.mp h _ (lookup_mem e)
  simp at this
theorem vals_rev {vs zs : List V} {us ws : List Value} (h1 : Vals vs us) (h2 : Vals zs ws) : Vals (vs ++ zs.reverse) (us ++ ws.reverse) := by
  refine h1.append ?_
  induction h2 with
  | nil => exact .nil
  | cons a r ih =>
    rw [List.reverse_cons, List.reverse_cons]
    exact ih.append (.cons a .nil)
end
end Xe

set_option Elab.async false
set_option linter.all false
set_option maxRecDepth 100000
set_option maxHeartbeats 4000000
/-! defs whose caller is known to be inside no repr: repr of laid data -/
namespace Qs
open PySem PySem.Spec PyProof.Rows L2
/-- FnOk where no repr is under way -/
structure FnQ (P : Program) (w : World) (K : PySem.W.Frag) (mg : Str → Option Value) (base : Heap) (CX : CXT) (k : Nat) (f : Addr) (fd : FuncData) (ps : List Str) (sp : Sp) : Prop where
  len : ∀ vs H Q E, sp vs H Q E → vs.length = ps.length
  go : ∀ (A : Around) (outer : List Env) (s : Shared) (H : Hp) (args : Args) (us : List Value) (vs : List V) (Q : VK) (E : XK), Room k A → A.guards = some [] → Env0 P w K mg base A outer s H → BindsTo s fd args (ps.zip us) → Vals vs us → sp vs H Q E → codeAny (model P w) A (.call (.ref f) args) (CR CX outer P w H s Q E) s
section
variable {CX : CXT} {P : Program} {w : World} {K : PySem.W.Frag} {mg : Str → Option Value} {base : Heap} {k : Nat}
theorem fq_of {f : Addr} {name qual : Str} {params : Arguments} {body : List Stmt} {scope : Scope} {dV kV doc pm cdv ct oc : Value} {an od : Option Addr} {osl : Array (Option Value)} {N ps : List Str} {sp : Sp}
    (lk : K.lookup f = some ⟨oc, od, .func (PySem.W.fnOf name qual params body scope dV kV doc pm an cdv ct), osl⟩) (hcd : PySem.W.codeIn K cdv qual = true) (S : FnScope N ps scope) (len : ∀ vs H Q E, sp vs H Q E → vs.length = ps.length)
    (hbody : ∀ (A : Around) (outer : List Env) (s : Shared) (H : Hp) (vs : List V) (Q : VK) (E : XK), Room k (A.deeper (envOfC qual scope s.heap.objs.size f cdv)) → A.guards = some [] → sp vs H Q E → ∃ t, PSs (cxOf CX P w K mg base N qual scope f cdv A outer s H E) body t ∧ t { nx := fun _ H' => Q .non H', rt := Q } (start N vs) H) :
    FnQ P w K mg base CX (k + 1) f (PySem.W.fnOf name qual params body scope dV kV doc pm an cdv ct) ps sp := ⟨len, fun A outer s H args us vs Q E hr gd e0 hb r hsp => by
  have kx : K.In s.heap := e0.mod.kin.keeps fun b o e => (e0.bs b o e).1
  have nolim : s.heap.NoLimit := e0.mod.nolimit.keeps fun b o e => (e0.bs b o e).1
  refine codeAny_call_function hr.depth (kx _ _ lk) rfl S.co S.gen rfl (PySem.W.codeRec_of kx hcd) (hb _ _ _ _ (wpAny_newFunctionEnv_cells S.kind (fun y hy => ?_) fun env he s1 x => ?_))
  · rcases S.par y.1 (List.of_mem_zip (show (y.1, y.2) ∈ ps.zip us from hy)).1 with q | q
    · exact .inl q
    · exact .inr ⟨q, PySem.W.cellsFrom_some _ _ _ (.inl q)⟩
  · subst he
    refine ⟨nolim.keeps x.toInCall.keep, codeAny_func ?_⟩
    obtain ⟨t, ht, hq⟩ := hbody A outer s H vs Q E (hr.deeper _) gd hsp
    have I : Inv (cxOf CX P w K mg base N qual scope f cdv A outer s H E) [] (start N vs) H s1 := inv_start S hr.hd e0 (len _ _ _ _ hsp) r x
    refine wpAny_mono (ht.run [] s1 (start N vs) H _ I hq) (fun fl s' hs => ?_) fun e s' hs => hs
    match fl, hs with
    | .ret u, ⟨v, _, H', J, rv, q⟩ => exact ⟨v, H', J.os, J.bare, J.base, J.hok, rv, q⟩
    | .next, ⟨_, H', J, q⟩ => exact ⟨.non, H', J.os, J.bare, J.base, J.hok, rfl, q⟩
    | .brk, ⟨_, _, _, q⟩ => exact False.elim q
    | .cont, ⟨_, _, _, q⟩ => exact False.elim q⟩
theorem okQ {x qual : Str} {st : Stmt} {f : Addr} {fd : FuncData} {N ps : List Str} {sp : Sp} (F : Fun K x qual st f fd) (S : FnScope N ps (defScope st)) (len : ∀ vs H Q E, sp vs H Q E → vs.length = ps.length)
    (hbody : ∀ (cdv : Value) (A : Around) (outer : List Env) (s : Shared) (H : Hp) (vs : List V) (Q : VK) (E : XK), Room k (A.deeper (envOfC qual (defScope st) s.heap.objs.size f cdv)) → A.guards = some [] → sp vs H Q E →
      ∃ t, PSs (cxOf CX0 P w K mg base N qual (defScope st) f cdv A outer s H E).nox (defBody st) t ∧ t { nx := fun _ H' => Q .non H', rt := Q } (start N vs) H) : FnQ P w K mg base CX0 (k + 1) f fd ps sp := by
  obtain ⟨oc, od, kV, doc, pm, an, cdv, ct, osl, rfl, lk, hcd⟩ := F.ex
  refine fq_of lk hcd S len fun A outer s H vs Q E hr gd hsp => ?_
  obtain ⟨t, h, q⟩ := hbody cdv A outer s H vs Q E hr gd hsp
  exact ⟨t, h.nox, q⟩
end
/-- as callers see it -/
def FnGQ (P : Program) (w : World) (K : PySem.W.Frag) (mg : Str → Option Value) (base : Heap) (CX : CXT) (k : Nat) (x : Str) (ps : List Str) (sp : Sp) : Prop :=
  ∃ (f : Addr) (fd : FuncData), FnQ P w K mg base CX k f fd ps sp ∧ mg x = some (.ref f) ∧ PySem.W.keepIn K (.ref f) = true ∧ Binds K fd ps []
section
variable {X : Cx} {CX : CXT} {j k : Nat} {ps : List Str} {sp : Sp} {E : XK} {x : Str} {p pos : Pos} {e : Expr} {es : List Expr} {t : TA}
theorem pe_callQ (F : FnGQ X.prog X.w X.K X.mg X.base CX k x ps sp) (hr : Room j X.A) (gd : X.A.guards = some []) (hk : k ≤ j) (hg : Gl X x) (hx : Passes CX X E) (ha : PA X (e :: es) t)
    (hdb : (x == ("__debug__" : Str)) = false := by decide) (he : starEach (e :: es) X.env = (false, eval e X.env) :: starEach es X.env := by rfl) (hpl : (backTo pos (starEach es X.env)).any (·.1) = false := by rfl) : PE X (.Call (.Name x p) (e :: es) [] pos) (tCall sp [] E t) := by
  obtain ⟨f, fd, F1, hm, kp, hb⟩ := F
  refine ⟨fun pins s σ H Q I h => wpAny_Call_Name_kw (ld_glob I hg hm (PySem.W.callWith_K (h₀ := X.base) I.ok.mod.kin kp (thn (ha.run pos pins s σ H _ I h) fun us s1 hh => ?_) he hpl) hdb)⟩
  obtain ⟨vs, H1, I1, r, q⟩ := hh
  have q' : sp vs H1 Q E := by rw [List.append_nil] at q; exact q
  have hl : us.length = ps.length := by rw [← r.length]; exact F1.len _ _ _ _ q'
  have bd := hb s1 us I1.kIn (by rw [List.append_nil]; exact hl)
  rw [List.append_nil] at bd
  refine ⟨I1.kIn, wpAny_call (codeAny_mono (F1.go X.A X.stack s1 H1 ⟨us, []⟩ us vs Q E (hr.mono hk) gd I1.env0 bd r q') fun res s' hq => ?_)⟩
  match res, hq with
  | .error er, hq => exact hx pins σ H1 s1 er s' I1 hq
  | .ok (.ret u), hq => exact I1.after hq
/-- repr of laid data -/
def rReprD (K : PySem.W.Frag) : List V → Hp → VK → Prop := fun xs H Q => ∃ x d, xs = [x] ∧ Dp K H x d ∧ d.showable = true ∧ d.hasDict = false ∧ d.shown.length ≤ sizeLine ∧ d.depth ≤ 60 ∧ Q (.str d.shown) H
theorem call_reprD (K : PySem.W.Frag) (hu : X.A.units + 64 < cLine) (gd : X.A.guards = some []) (hK : X.K = K := by rfl) : CallR X (.builtin "repr") (rReprD K) := by
  subst hK
  intro pins s σ H xs us Q I r h
  obtain ⟨x, d, rfl, dp, sh, nd, sz, dep, q⟩ := h
  cases r with
  | cons rx r2 =>
    cases r2
    rename_i u
    have fin : ∀ h' tk (u : Nat), (∀ b o, s.heap.get? b = some o → h'.get? b = some o) → EP X pins σ Q (.str d.shown u) { s with heap := h', toks := tk } := fun h' tk u k => ⟨.str d.shown, H, I.kept k, ⟨_, rfl⟩, q⟩
    obtain ⟨as, rd⟩ := Dp.reads I d x u dp rx
    have nsm : d.hasDict = true → sysModules ∉ as := fun z => by rw [nd] at z; cases z
    have big : ∀ a, u = .ref a → wpAny (model X.prog X.w) X.A (call (.builtin "repr") [u]) (EP X pins σ Q) X.xe s := fun a e => by
      subst e
      exact repr_of_reads' rd sh nsm gd (by omega) (fun _ _ z => z) (fun h' v tk k => fin h' tk v k) sz
    cases dp with
    | non => cases rx; exact P.repr_of_none (fin s.heap _ _ fun _ _ z => z)
    | bl b => cases rx; exact P.repr_of_bool (fin s.heap _ _ fun _ _ z => z)
    | int i => obtain ⟨t, rfl⟩ := rx; exact P.repr_of_int (of_decide_eq_true sh) (fin s.heap _ _ fun _ _ z => z)
    | str y => obtain ⟨t, rfl⟩ := rx; exact P.repr_of_str (fin s.heap _ _ fun _ _ z => z) sz
    | lst a b => exact big _ rx
    | tup a b => exact big _ rx
end
/-! ### the end -/
theorem law_callQ {P : Program} {w : World} {K : PySem.W.Frag} {mg mb : Str → Option Value} {CX : CXT} {k : Nat} {fa a : Addr} {fd : FuncData} {x : Str} {sp : Sp} {s₁ : Shared} {vs : List Value} {ns : List Int} (KX : K.In s₁.heap) (gl : s₁.heap.Ns mainGlobals mg) (bt : s₁.heap.Ns builtinsNs mb)
    (bb : ∀ x : Str, x ≠ "__name__" → mb x = bootBuiltins x) (nl : s₁.heap.NoLimit) (gn : s₁.gens = #[]) (at_ : s₁.heap.get? a = some { cls := .type "list", data := .seq vs.toArray }) (ia : IntsAre vs ns) (ln : ns.length ≤ sizeLine) (hr : Room k callerA)
    (F : ∀ base : Heap, K.In base → base.Ns mainGlobals mg → FnQ P w K mg base CX k fa fd [x] sp) (bd : ∀ (s : Shared) (u : Value), BindsTo s fd ⟨[u], []⟩ [(x, u)]) (hsp : ∀ H : Hp, Only H → SqL K H a (ns.map V.int) → sp [.ref a] H (fun v _ => v = .bl true) fun _ _ _ => False) (hCX : ∀ H e s', CX [] H s₁ (fun _ _ _ => False) e s' → False) :
    codeAny (model P w) callerA (.call (.ref fa) ⟨[.ref a], []⟩) (fun r s' => r = .ok (.ret (.bool true)) ∧ OldK s₁.heap s'.heap ∧ s'.os = s₁.os ∧ AllBare s'.gens) s₁ := by
  have main : ∀ H : Hp, Only H → SqL K H a (ns.map V.int) → HOk P w H s₁.heap → (∀ b, H b ≠ none → b = a ∧ K.lookup a = none) → codeAny (model P w) callerA (.call (.ref fa) ⟨[.ref a], []⟩) (fun r s' => r = .ok (.ret (.bool true)) ∧ OldK s₁.heap s'.heap ∧ s'.os = s₁.os ∧ AllBare s'.gens) s₁ := fun H only sq ok one => by
    have dict0 : ∀ {b : Addr} {o : Obj} {es : Array DictEntry} {ep : Nat}, s₁.heap.get? b = some o → o.data = .dict es ep → H b = none := fun {b o es ep} e d => Classical.byContradiction fun n => by
      obtain ⟨rfl, _⟩ := one b n
      rw [at_] at e
      cases e
      exact nomatch (show Data.seq vs.toArray _ = Data.dict es ep from d)
    have ns1 : ∀ {b : Addr} {m : Str → Option Value}, s₁.heap.Ns b m → (hidT s₁.heap H).Ns b m := fun ⟨o, es, ep, e, d, r⟩ => ⟨o, es, ep, hidT_get e (dict0 e d), d, r⟩
    have kb : K.In (hidT s₁.heap H) := fun b o e => hidT_get (KX b o e) (Classical.byContradiction fun n => by
      obtain ⟨rfl, z⟩ := one b n
      rw [z] at e
      cases e)
    obtain ⟨mc, n1, n2⟩ := nl
    have e0 : Env0 P w K mg (hidT s₁.heap H) callerA [] s₁ H := ⟨rfl, ⟨kb, ns1 gl, ⟨mb, ns1 bt, bb⟩, ⟨mc, ns1 n1, n2⟩⟩, fun b o e => of_hidT e, Nat.le_of_eq (hidT_size _ _), trivial, (fun b hb => nomatch (show b ∈ ([] : List Addr) from hb)), ok, .of_eq gn⟩
    refine codeAny_mono ((F _ kb (ns1 gl)).go callerA [] s₁ H ⟨[.ref a], []⟩ [.ref a] [.ref a] _ _ hr rfl e0 (bd s₁ (.ref a)) (.cons rfl .nil) (hsp H only sq)) fun r s' h => ?_
    match r, h with
    | .error e, h => exact (hCX H e s' h).elim
    | .ok (.ret u), ⟨v, H', os, bare, un, ok', r', q⟩ =>
      obtain rfl : v = .bl true := q
      obtain rfl : u = Value.bool true := r'
      refine ⟨rfl, OldK.of_keep fun b o e => ?_, os, bare⟩
      rcases only b with z | ⟨ob, xs, z⟩
      · exact un.keep b o e z (fun y => nomatch (show b ∈ ([] : List Addr) from y)) (by simp)
      · obtain ⟨e1, _⟩ := ok b _ z
        obtain ⟨e2, _⟩ := ok' b _ (un.frzs b ob _ z)
        rw [e] at e1
        cases e1
        exact e2
  have rv := vals_ints ia
  cases hk : K.lookup a with
  | some o =>
    have e := KX a o hk
    rw [at_] at e
    cases e
    exact main (fun _ => none) (fun _ => .inl rfl) (.inr ⟨_, vs.toArray, _, hk, rfl, rfl, rfl, by rw [List.size_toArray, ia.length]; exact ln, by simpa using rv⟩) (fun b u z => nomatch (show (none : Option HO) = some u from z)) (fun b z => absurd rfl z)
  | none =>
    have at1 : ∀ b, b = a → (fun b => if b = a then some (HO.frz { cls := .type "list", data := .seq vs.toArray } (.lst (ns.map V.int))) else none) b = some (HO.frz { cls := .type "list", data := .seq vs.toArray } (.lst (ns.map V.int))) := fun b e => if_pos e
    refine main (fun b => if b = a then some (HO.frz { cls := .type "list", data := .seq vs.toArray } (.lst (ns.map V.int))) else none) (fun b => ?_) (.inl (.inr ⟨_, at1 a rfl⟩)) (fun b u z => ?_) (fun b z => ?_)
    · by_cases e : b = a
      · exact .inr ⟨_, _, at1 b e⟩
      · exact .inl (if_neg e)
    · by_cases e : b = a
      · have y := (at1 b e).symm.trans z
        cases y
        subst e
        exact ⟨at_, by rw [List.length_map]; exact ln, vs, _, rv, at_⟩
      · exact nomatch (if_neg e).symm.trans z
    · by_cases e : b = a
      · exact ⟨e, hk⟩
      · exact absurd (if_neg e) z
theorem walk_ofQ {l : PySem.W.OpenLaw} {n k : Nat} {q : Program} {loose : List Str} {XP : (Str → Option Value) → Heap → Prop} {YP : World → Heap → Prop} {d : DefRec} {K : Params → PySem.W.Frag} {CX : World → CXT} {sp : World → Sp} {x : Str} (hn : l.most = some n) (hn2 : n ≤ sizeLine) (hdf : d.params.defaults = []) (hr : Room k callerA) (hY : ∀ (w : World) (h : Heap), YP w h → (K w.params).In h)
    (F : ∀ (w : World) (mg : Str → Option Value) (fa : Addr) (h : Heap), (K w.params).In h → h.Ns mainGlobals mg → mg d.name = some (.ref fa) → ∃ fd : FuncData, (∀ (s : Shared) (u : Value), BindsTo s fd ⟨[u], []⟩ [(x, u)]) ∧ ∀ base : Heap, (K w.params).In base → base.Ns mainGlobals mg → FnQ l.prog w (K w.params) mg base (CX w) k fa fd [x] (sp w))
    (hsp : ∀ (w : World) (H : Hp) (a : Addr) (ns : List Int), ns.length ≤ n → Only H → SqL (K w.params) H a (ns.map V.int) → sp w [.ref a] H (fun v _ => v = .bl true) fun _ _ _ => False) (hCX : ∀ (w : World) (H : Hp) (s : Shared) (e : Value) (s' : Shared), CX w [] H s (fun _ _ _ => False) e s' → False) : PySem.W.WalkO q loose XP YP l.row.toRowW d [] (fun f vs => PySem.call f vs) := by
  refine Att.attach_call hn hdf fun w s₀ s₁ mg mb fa o pm cd doc a vs ns G Y _ _ _ mgf obj its few gens => ?_
  obtain ⟨fd, hb, hF⟩ := F w mg fa _ (hY w _ Y) G.T.g mgf
  exact law_callQ (hY w _ Y) G.T.g G.T.b G.T.builtins G.T.nolimit gens obj its (Nat.le_trans few hn2) hr hF hb (fun H hO hS => hsp w H a ns few hO hS) fun H e s' => hCX w H s₁ e s'
end Qs

set_option Elab.async false
set_option linter.all false
set_option maxRecDepth 100000
set_option maxHeartbeats 4000000
/-! lists taken apart: (a, b) = a list; match with sequence patterns of names -/
namespace Mt
open PySem PySem.Spec PyProof.Rows L2
def gTupL (K : PySem.W.Frag) (n : Nat) (t : TGs) : TG := fun v σ H Q => ∃ a xs, v = .ref a ∧ SqL K H a xs ∧ xs.length = n ∧ t xs σ H Q
def gTupU (K : PySem.W.Frag) (n : Nat) (t : TGs) : TG := fun v σ H Q => gTup K n t v σ H Q ∨ gTupL K n t v σ H Q
section
variable {X : Cx} {pos : Pos}
theorem pg_tupL {es : List Expr} {k : Nat} {t : TGs} {n : Nat} (hc : X.calm = true) (h : PGs X es t) (hn : (assignEach es X.env).length = n := by rfl) (hst : (assignEach es X.env).findIdx? (·.1) = none := by rfl) : PG X (.Tuple es k pos) (gTupL X.K n t) := by
  refine ⟨fun pins s σ H v u Q I r hw => ?_⟩
  obtain ⟨a, xs, rfl, hq, hl, hw⟩ := hw
  obtain rfl : u = Value.ref a := r
  obtain ⟨its, rv, ht, hz⟩ := I.list hq
  have hu : wpAny (model X.prog X.w) X.A (unpack (.ref a) (assignEach es X.env)) (fun _ s' => ∃ σ' H', Inv X pins σ' H' s' ∧ Q σ' H') X.xe s := by
    unfold unpack
    rw [hst, hn, ← hl, rv.length, show its.length = its.toArray.size by simp]
    refine wpAny_bind (wpAny_holding (PySem.W.kun_itemsOf (I.ok.hd hc) ht.isList fun h' hx => ?_))
    exact h.run pins _ σ H xs _ Q (I.kept (t' := s.toks) fun b o e => hx b o (Nat.ne_of_lt (Heap.lt_size e)) e) (by simpa using rv) hw
  rw [arm_assign_Tuple]
  exact wpAny_bind (wpAny_standAt hu)
theorem pg_tupU (K : PySem.W.Frag) {es : List Expr} {k : Nat} {t : TGs} {n : Nat} (hc : X.calm = true) (h : PGs X es t) (hn : (assignEach es X.env).length = n := by rfl) (hst : (assignEach es X.env).findIdx? (·.1) = none := by rfl) (hK : X.K = K := by rfl) : PG X (.Tuple es k pos) (gTupU K n t) := by
  subst hK
  refine ⟨fun pins s σ H v u Q I r hw => ?_⟩
  rcases hw with hw | hw
  · exact (pg_tup hc h hn hst).run pins s σ H v u Q I r hw
  · exact (pg_tupL hc h hn hst).run pins s σ H v u Q I r hw
end
/-! ### match: case [a, b] if g: -/
/-- a case: the slots of its names, its guard, its suite -/
structure Mc where
  is : List Nat
  gd : Option TT
  bd : TS
def setAll : List Nat → List V → L2.St → L2.St
  | i :: is, x :: xs, σ => setAll is xs (σ.set i (some x))
  | _, _, σ => σ
def mCases (K : PySem.W.Frag) (a : Addr) (xs : List V) : List Mc → TS
  | [] => fun D σ H => D.nx σ H
  | c :: r => fun D σ H => if xs.length = c.is.length then (match c.gd with
      | none => c.bd D (setAll c.is xs σ) H
      | some g => g (setAll c.is xs σ) H fun b H1 => if b = true then c.bd D (setAll c.is xs σ) H1 else SqL K H1 a xs ∧ mCases K a xs r D (setAll c.is xs σ) H1) else mCases K a xs r D σ H
def tMatch (K : PySem.W.Frag) (te : TE) (cs : List Mc) : TS := fun D σ H => te σ H fun x H1 => ∃ a xs, x = .ref a ∧ SqL K H1 a xs ∧ mCases K a xs cs D σ H1
def pats (ns : List (Str × Pos)) : List Pattern := ns.map fun q => .MatchAs none (some q.1) q.2
inductive McOk (X : Cx) : List MatchCase → List Mc → Prop
  | nil : McOk X [] []
  | plain {ns : List (Str × Pos)} {is : List Nat} {bd : TS} {suite : List Stmt} {pos : Pos} {ms : List MatchCase} {cs : List Mc} (hne : ns ≠ []) (hi : Paired (fun i (q : Str × Pos) => X.N[i]? = some q.1 ∧ X.env.scope.names.lookup q.1 = some .local) is ns) (hb : PSs X suite bd) (r : McOk X ms cs) :
      McOk X (⟨.MatchSequence (pats ns) pos, none, suite⟩ :: ms) (⟨is, none, bd⟩ :: cs)
  | guard {ns : List (Str × Pos)} {is : List Nat} {g : Expr} {tg : TT} {bd : TS} {suite : List Stmt} {pos : Pos} {ms : List MatchCase} {cs : List Mc} (hne : ns ≠ []) (hi : Paired (fun i (q : Str × Pos) => X.N[i]? = some q.1 ∧ X.env.scope.names.lookup q.1 = some .local) is ns) (hg : PT X g tg) (hb : PSs X suite bd) (r : McOk X ms cs) :
      McOk X (⟨.MatchSequence (pats ns) pos, some g, suite⟩ :: ms) (⟨is, some tg, bd⟩ :: cs)
section
variable {X : Cx} {pins : List (Addr × Obj)}
theorem each_names {M : Model} {A : Around} {E : Value → Shared → Prop} {env : Env} : ∀ {ns : List (Str × Pos)} {us : List Value} {s : Shared} {Q : Option (List (Str × Value)) → Shared → Prop}, us.length = ns.length → Q (some ((ns.map (·.1)).zip us)) s → wpAny M A (matchEach (pats ns) env us) Q E s
  | [], [], s, Q, _, h => wpAny_matchEach_nil h
  | n :: ns, u :: us, s, Q, hl, h => by
    refine wpAny_matchEach_cons (wpAny_matchPattern_Capture ?_)
    exact each_names (by simpa using hl) h
theorem star_none : ∀ ns : List (Str × Pos), (pats ns).findIdx? (·.isStar) = none := fun ns => by
  rw [List.findIdx?_eq_none_iff]
  intro p hp
  obtain ⟨q, _, rfl⟩ := List.mem_map.mp hp
  rfl
theorem wild_no {ns : List (Str × Pos)} (h : ns ≠ []) : ((pats ns).all fun p => p.isWildcard || (p.isStar && p.names.isEmpty)) = false := by
  cases ns with
  | nil => exact absurd rfl h
  | cons q r => rfl
theorem bind_all {M : Model} {A : Around} {E : Value → Shared → Prop} : ∀ {ns : List (Str × Pos)} {is : List Nat} {xs : List V} {us : List Value} {σ : L2.St} {H : Hp} {s : Shared} {Q : Unit → Shared → Prop}, X.N.Nodup →
    Paired (fun i (q : Str × Pos) => X.N[i]? = some q.1 ∧ X.env.scope.names.lookup q.1 = some .local) is ns → Vals xs us → xs.length = is.length → Inv X pins σ H s → (∀ s', Inv X pins (setAll is xs σ) H s' → Q () s') →
    wpAny M A (assignInOrder (((ns.map (·.1)).zip us).map fun p => bindName X.env p.1) (((ns.map (·.1)).zip us).map (·.2))) Q E s
  | [], _, xs, us, σ, H, s, Q, nd, .nil, r, hl, I, k => by
    cases xs with
    | nil => exact wpAny_assignInOrder_none (k s I)
    | cons x xs => cases hl
  | n :: ns, i :: is, xs, us, σ, H, s, Q, nd, .cons h1 h2, r, hl, I, k => by
    cases r with
    | nil => cases hl
    | cons rx rr =>
      refine wpAny_assignInOrder_more (wpAny_bindName (store_ok I nd h1.1 (.inl h1.2) rx (fun s1 I1 => ?_) (.inr h1.2)))
      exact bind_all nd h2 rr (by simpa using hl) I1 k
theorem ps_match (K : PySem.W.Frag) {e : Expr} {te : TE} {ms : List MatchCase} {cs : List Mc} {pos : Pos} (hc : X.calm = true) (hN : X.N.Nodup) (he : PE X e te) (hm : McOk X ms cs) (hK : X.K = K := by rfl) : PS X (.Match e ms pos) (tMatch K te cs) := by
  subst hK
  refine ⟨fun pins s σ H D I h => wpAny_Match (thn (he.run pins s σ H _ I h) fun u s1 hh => ?_)⟩
  obtain ⟨x, H1, I1, rx, a, xs, rfl, sq, q⟩ := hh
  obtain rfl : u = Value.ref a := rx
  have go : ∀ {ms : List MatchCase} {cs : List Mc}, McOk X ms cs → ∀ {first : Bool} {σ : L2.St} {H : Hp} {s : Shared}, Inv X pins σ H s → SqL X.K H a xs → mCases X.K a xs cs D σ H → wpAny (model X.prog X.w) X.A (matchCases ms X.env (.ref a) first) (SP X pins D) X.xe s := by
    intro ms cs hm
    induction hm with
    | nil =>
      intro first σ H s I _ q
      exact wpAny_matchCases_nil ⟨σ, H, I, q⟩
    | @plain ns is bd suite pos ms cs hne hi hb r ih =>
      intro first σ H s I sq q
      obtain ⟨its, rv, hl, hz⟩ := I.list sq
      have hp : is.length = ns.length := hi.length
      have hz2 : xs.length ≤ 16777216 := hz
      refine wpAny_matchCases_cons (wpAny_matchPattern_Sequence (wpAny_collectionFlag hl.isList.typeIs flag_seq_list ?_) (star_none ns) (wild_no hne))
      rw [if_pos rfl]
      refine pyLen_list hl.isList (by rw [List.size_toArray, ← rv.length]; omega) ?_
      have I2 := I.tok (s.toks + 1 + 1)
      have e1 : (pats ns).length = ns.length := List.length_map _
      unfold mCases at q
      by_cases hn : xs.length = is.length
      · rw [if_pos hn] at q
        rw [if_neg (by simp [e1, ← rv.length, hn, hp])]
        have e2 : (pats ns).length = its.toArray.size := by rw [e1, List.size_toArray, ← rv.length, hn, hp]
        rw [e2]
        refine PySem.W.kun_itemsOf (I.ok.hd hc) hl.isList fun h' hx => ?_
        have I3 : Inv X pins σ H { s with heap := h', toks := s.toks + 1 + 1 } := I2.kept (t' := s.toks + 1 + 1) fun b o e => hx b o (Nat.ne_of_lt (Heap.lt_size e)) e
        refine each_names (us := its) (by rw [← rv.length, hn, hp]) (bind_all hN hi rv hn I3 fun s4 I4 => ?_)
        exact hb.run pins s4 _ H D I4 q
      · rw [if_neg hn] at q
        rw [if_pos (by simp [e1, ← rv.length]; omega)]
        exact ih I2 sq q
    | @guard ns is g tg bd suite pos ms cs hne hi hg hb r ih =>
      intro first σ H s I sq q
      obtain ⟨its, rv, hl, hz⟩ := I.list sq
      have hp : is.length = ns.length := hi.length
      have hz2 : xs.length ≤ 16777216 := hz
      refine wpAny_matchCases_cons (wpAny_matchPattern_Sequence (wpAny_collectionFlag hl.isList.typeIs flag_seq_list ?_) (star_none ns) (wild_no hne))
      rw [if_pos rfl]
      refine pyLen_list hl.isList (by rw [List.size_toArray, ← rv.length]; omega) ?_
      have I2 := I.tok (s.toks + 1 + 1)
      have e1 : (pats ns).length = ns.length := List.length_map _
      unfold mCases at q
      by_cases hn : xs.length = is.length
      · rw [if_pos hn] at q
        rw [if_neg (by simp [e1, ← rv.length, hn, hp])]
        have e2 : (pats ns).length = its.toArray.size := by rw [e1, List.size_toArray, ← rv.length, hn, hp]
        rw [e2]
        refine PySem.W.kun_itemsOf (I.ok.hd hc) hl.isList fun h' hx => ?_
        have I3 : Inv X pins σ H { s with heap := h', toks := s.toks + 1 + 1 } := I2.kept (t' := s.toks + 1 + 1) fun b o e => hx b o (Nat.ne_of_lt (Heap.lt_size e)) e
        refine each_names (us := its) (by rw [← rv.length, hn, hp]) (bind_all hN hi rv hn I3 fun s4 I4 => ?_)
        refine thn (hg.run pins s4 _ H _ I4 q) fun b s5 h5 => ?_
        obtain ⟨H5, I5, q5⟩ := h5
        cases b with
        | true => exact hb.run pins s5 _ H5 D I5 (by simpa using q5)
        | false =>
          rw [if_neg (by decide)] at q5
          exact ih I5 q5.1 q5.2
      · rw [if_neg hn] at q
        rw [if_pos (by simp [e1, ← rv.length]; omega)]
        exact ih I2 sq q
  exact go hm I1 sq q
end
end Mt

set_option Elab.async false
set_option linter.all false
set_option maxRecDepth 100000
/-! numbers as texts: lists of signs -/
namespace Nu
open PySem L2
abbrev val (D : List Nat) : Nat := NumText.digitsVal D
abbrev AllD (D : List Nat) : Prop := NumText.AllDigits D
def neg (L : List Nat) : Bool := L.head? == some 45
/-- without the sign -/
def dg (L : List Nat) : List Nat := if neg L = true then L.tail else L
def sgv (L : List Nat) : Int := if neg L = true then -((val (dg L) : Nat) : Int) else (val (dg L) : Nat)
def wrI (n : Int) : List Nat := if n < 0 then 45 :: TL.numL n.natAbs else TL.numL n.natAbs
theorem val_snoc (D : List Nat) (c : Nat) : val (D ++ [c]) = val D * 10 + (c - 48) := by
  unfold val NumText.digitsVal
  rw [List.foldl_append]
  rfl
theorem canon : ∀ (n : Nat) (D : List Nat), D.length = n → D ≠ [] → AllD D → (D.head? ≠ some 48 ∨ D = [48]) → TL.numL (val D) = D := by
  intro n
  induction n with
  | zero =>
    intro D hl h0
    exact absurd (List.length_eq_zero_iff.mp hl) h0
  | succ n ih =>
    intro D hl h0 ha hh
    obtain ⟨D', c, rfl⟩ : ∃ D' c, D = D' ++ [c] := ⟨D.dropLast, D.getLast h0, (List.dropLast_concat_getLast h0).symm⟩
    have hc : 48 ≤ c ∧ c ≤ 57 := ha c (by simp)
    rw [val_snoc]
    by_cases hD : D' = []
    · subst hD
      have e : val [] * 10 + (c - 48) = c - 48 := by
        show 0 * 10 + (c - 48) = _
        omega
      rw [e, TL.numL_lt (by omega)]
      show [48 + (c - 48)] = [c]
      rw [show 48 + (c - 48) = c by omega]
    · have ha' : AllD D' := fun x hx => ha x (List.mem_append_left _ hx)
      have hhd : D'.head? ≠ some 48 := by
        rcases hh with h | h
        · cases D' with
          | nil => exact absurd rfl hD
          | cons a r => exact h
        · have h2 := congrArg List.length h
          rw [List.length_append] at h2
          have h3 : D'.length ≠ 0 := fun z => hD (List.length_eq_zero_iff.mp z)
          have h4 : ([c] : List Nat).length = 1 := rfl
          have h5 : ([48] : List Nat).length = 1 := rfl
          omega
      have e := ih D' (by rw [List.length_append] at hl; have : ([c] : List Nat).length = 1 := rfl; omega) hD ha' (.inl hhd)
      have hv : val D' ≠ 0 := fun z => by
        rw [z] at e
        rw [← e] at hhd
        exact hhd (by rw [TL.numL_lt (by decide)]; rfl)
      have h10 : 10 ≤ val D' * 10 + (c - 48) := by omega
      rw [TL.numL_step h10]
      have e1 : (val D' * 10 + (c - 48)) / 10 = val D' := by omega
      have e2 : 48 + (val D' * 10 + (c - 48)) % 10 = c := by omega
      rw [e1, e2, e]
theorem numL_head : ∀ n : Nat, 0 < n → (TL.numL n).head? ≠ some 48 := by
  intro n
  induction n using Nat.strongRecOn with
  | _ n ih =>
    intro h0
    by_cases h : n < 10
    · rw [TL.numL_lt h]
      show some (48 + n) ≠ some 48
      intro z
      have := Option.some.inj z
      omega
    · rw [TL.numL_step (by omega)]
      have h1 := ih (n / 10) (by omega) (by omega)
      have h2 := TL.numL_ne (n / 10)
      cases e : TL.numL (n / 10) with
      | nil => exact absurd e h2
      | cons a r =>
        rw [e] at h1
        exact h1
theorem numL_zero : TL.numL 0 = [48] := TL.numL_lt (by decide)
/-- what number_of reads -/
def numP (L : List Nat) : Option Int := if dg L ≠ [] ∧ (dg L).all (fun c => decide (48 ≤ c) && decide (c ≤ 57)) = true ∧ (dg L).length ≤ 13 ∧ ¬ ((dg L).head? = some 48 ∧ L ≠ [48]) ∧ -1000000000000 ≤ sgv L ∧ sgv L ≤ 1000000000000 then some (sgv L) else none
theorem alld {D : List Nat} : D.all (fun c => decide (48 ≤ c) && decide (c ≤ 57)) = true ↔ AllD D := by
  rw [List.all_eq_true]
  constructor
  · intro h c hc
    have := h c hc
    rw [Bool.and_eq_true, decide_eq_true_eq, decide_eq_true_eq] at this
    exact this
  · intro h c hc
    rw [Bool.and_eq_true, decide_eq_true_eq, decide_eq_true_eq]
    exact h c hc
theorem canon_iff {L : List Nat} (h0 : dg L ≠ []) (ha : AllD (dg L)) : ¬ ((dg L).head? = some 48 ∧ L ≠ [48]) ↔ wrI (sgv L) = L := by
  unfold sgv
  cases hn : neg L with
  | true =>
    obtain ⟨D, rfl⟩ : ∃ D, L = 45 :: D := by
      cases L with
      | nil => cases hn
      | cons a r =>
        have h1 : (some a == some 45) = true := hn
        rw [beq_iff_eq] at h1
        exact ⟨r, by rw [Option.some.inj h1]⟩
    have hd : dg (45 :: D) = D := by
      unfold dg
      rw [if_pos hn]
      rfl
    rw [hd] at h0 ha ⊢
    rw [if_pos rfl]
    have hne : (45 :: D) ≠ [48] := fun z => by
      have := (List.cons.inj z).1
      omega
    constructor
    · intro h
      have hh : D.head? ≠ some 48 := fun z => h ⟨z, hne⟩
      have e := canon D.length D rfl h0 ha (.inl hh)
      have hv : val D ≠ 0 := fun z => by
        rw [z, numL_zero] at e
        rw [← e] at hh
        exact hh rfl
      unfold wrI
      rw [if_pos (by omega), Int.natAbs_neg, Int.natAbs_natCast, e]
    · rintro h ⟨hz, _⟩
      unfold wrI at h
      by_cases hv : val D = 0
      · rw [if_neg (by omega)] at h
        have e2 : (-((val D : Nat) : Int)).natAbs = 0 := by omega
        rw [e2, numL_zero] at h
        have := (List.cons.inj h).1
        omega
      · rw [if_pos (by omega), Int.natAbs_neg, Int.natAbs_natCast] at h
        have h2 := (List.cons.inj h).2
        have h3 := numL_head (val D) (by omega)
        rw [h2] at h3
        exact h3 hz
  | false =>
    have hd : dg L = L := by
      unfold dg
      rw [hn]
      exact if_neg (by decide)
    rw [hd] at h0 ha ⊢
    rw [if_neg (by decide)]
    have hw : wrI ((val L : Nat) : Int) = TL.numL (val L) := by
      unfold wrI
      rw [if_neg (by omega), Int.natAbs_natCast]
    rw [hw]
    constructor
    · intro h
      refine canon L.length L rfl h0 ha ?_
      by_cases h2 : L = [48]
      · exact .inr h2
      · exact .inl fun z => h ⟨z, h2⟩
    · rintro h ⟨hz, hne⟩
      by_cases hv : val L = 0
      · rw [hv, numL_zero] at h
        exact hne h.symm
      · have h3 := numL_head (val L) (by omega)
        rw [h] at h3
        exact h3 hz
/-- the same by the law's own way -/
theorem numP_eq (L : List Nat) : numP L = if dg L ≠ [] ∧ (dg L).length ≤ 13 ∧ (dg L).all (fun c => decide (48 ≤ c) && decide (c ≤ 57)) = true then (if wrI (sgv L) = L ∧ (sgv L).natAbs ≤ 1000000000000 then some (sgv L) else none) else none := by
  unfold numP
  by_cases h : dg L ≠ [] ∧ (dg L).length ≤ 13 ∧ (dg L).all (fun c => decide (48 ≤ c) && decide (c ≤ 57)) = true
  · rw [if_pos h]
    have e := canon_iff h.1 (alld.mp h.2.2)
    by_cases h2 : wrI (sgv L) = L ∧ (sgv L).natAbs ≤ 1000000000000
    · rw [if_pos h2, if_pos ⟨h.1, h.2.2, h.2.1, e.mpr h2.1, by omega, by omega⟩]
    · rw [if_neg h2, if_neg]
      rintro ⟨_, _, _, h3, h4, h5⟩
      exact h2 ⟨e.mp h3, by omega⟩
  · rw [if_neg h, if_neg]
    rintro ⟨h1, h2, h3, _⟩
    exact h ⟨h1, h3, h2⟩
/-- the number is read back -/
theorem wr_back (n : Int) (h0 : -1000000000000 ≤ n) (h1 : n ≤ 1000000000000) : numP (wrI n) = some n := by
  have hl : (TL.numL n.natAbs).length ≤ 13 := TL.numL_len (by decide) (by have : n.natAbs ≤ 1000000000000 := by omega
                                                                          exact Nat.lt_of_le_of_lt this (by decide))
  have had := TL.numL_digits n.natAbs
  have hne := TL.numL_ne n.natAbs
  have key : ∀ (L : List Nat), wrI n = L → dg L = TL.numL n.natAbs → sgv L = n → numP L = some n := by
    intro L hw hd hs
    rw [numP_eq, if_pos ⟨by rw [hd]; exact hne, by rw [hd]; exact hl, by rw [hd]; exact alld.mpr had⟩, if_pos ⟨by rw [hs]; exact hw, by rw [hs]; omega⟩, hs]
  by_cases h : n < 0
  · have e : wrI n = 45 :: TL.numL n.natAbs := if_pos h
    have hn : neg (45 :: TL.numL n.natAbs) = true := rfl
    have hd : dg (45 :: TL.numL n.natAbs) = TL.numL n.natAbs := if_pos hn
    rw [e]
    refine key _ e hd ?_
    unfold sgv
    rw [if_pos hn, hd]
    show -((NumText.digitsVal (TL.numL n.natAbs) : Nat) : Int) = n
    rw [TL.numL_val]
    omega
  · have e : wrI n = TL.numL n.natAbs := if_neg h
    have hn : neg (TL.numL n.natAbs) = false := by
      cases e2 : TL.numL n.natAbs with
      | nil => exact absurd e2 hne
      | cons a r =>
        have := had a (by rw [e2]; exact List.mem_cons_self)
        show (some a == some 45) = false
        rw [beq_eq_false_iff_ne]
        intro z
        have := Option.some.inj z
        omega
    have hd : dg (TL.numL n.natAbs) = TL.numL n.natAbs := by
      unfold dg
      rw [hn]
      exact if_neg (by decide)
    rw [e]
    refine key _ e hd ?_
    unfold sgv
    rw [hn, if_neg (by decide), hd]
    show ((NumText.digitsVal (TL.numL n.natAbs) : Nat) : Int) = n
    rw [TL.numL_val]
    omega
theorem tl_int (n : Int) : TL.tl (Str.ofString (toString n)) = wrI n := by
  unfold wrI
  by_cases h : n < 0
  · rw [if_pos h]
    have e : toString n = "-" ++ toString ((n.natAbs : Nat) : Int) := by
      cases n with
      | ofNat m => exact absurd h (by simp)
      | negSucc m => rfl
    have e2 := TL.tl_num n.natAbs
    rw [TL.tl_ofString] at e2
    rw [e, TL.tl_ofString, String.toList_append, List.map_append, e2]
    rfl
  · rw [if_neg h]
    have e : n = ((n.natAbs : Nat) : Int) := by omega
    rw [e, Int.natAbs_natCast]
    exact TL.tl_num _
end Nu

set_option Elab.async false
set_option linter.all false
set_option maxRecDepth 100000
set_option maxHeartbeats 4000000
/-! f-strings, str of an own class, None, parts of texts -/
namespace Xf
open PySem PySem.Spec PyProof.Rows L2
def tJoinF (ts : List TE) : TE := fun σ H Q => tJs ts Str.empty σ H fun out H1 => Q (.str out) H1
def rStrO (C : Addr) (sp : Sp) : List V → Hp → VK → Prop := fun xs H Q => ∃ a dx fs, xs = [.ref a] ∧ H a = some (.ins C dx fs) ∧ sp [.ref a] H (fun v H2 => (∃ z, v = .str z) ∧ Q v H2) E0
def rIsN : R2 := fun x y H Q => y = .non ∧ Q (.bl (decide (x = .non))) H
def rNotN : R2 := fun x y H Q => y = .non ∧ Q (.bl (!decide (x = .non))) H
def rInT : R2 := fun x y H Q => ∃ i j, x = .str i ∧ y = .str j ∧ Q (.bl (Txt.contains j i)) H
def rNotInT : R2 := fun x y H Q => ∃ i j, x = .str i ∧ y = .str j ∧ Q (.bl (!Txt.contains j i)) H
section
variable {X : Cx} {j k : Nat} {f C : Addr} {sp : Sp} {p pos : Pos} {e : Expr} {ta : TE}
theorem pe_joinedT {v1 v2 : Expr} {rest : List Expr} {ts : List TE} (h : PJ X (v1 :: v2 :: rest) ts) : PE X (.JoinedStr (v1 :: v2 :: rest) pos) (tJoinF ts) := pe_joined h
theorem op_isU : OpR X (compareOp .Is) rIsN := op_isN
theorem op_notU : OpR X (compareOp .IsNot) rNotN := op_notN
theorem op_inT : OpR X (compareOp .In) rInT := op_in_str
theorem op_notInT : OpR X (compareOp .NotIn) rNotInT := op_notin_str
theorem call_strO (S : Ow.Spec X.K C "__str__" f) (F : Ow.Fr X.prog X.w X.K X.mg X.base k f sp) (hr : Room j X.A) (hj : k + 2 ≤ j) : CallR X (.type "str") (rStrO C sp) := by
  intro pins s σ H xs us Q I r h
  obtain ⟨a, dx, fs, rfl, e, q⟩ := h
  rw [Vals.ref1 r]
  obtain ⟨ox, od, J⟩ := Ow.inst_of I e
  have r2 := (hr.mono hj).in1.in1
  refine PySem.W.kso_call r2.units0 I.kIn J S.at_ S.fn (wpAny_call (codeAny_mono (F X.A.in1.in1 X.stack s H [.ref a] [.ref a] _ E0 r2 I.env0.in1.in1 (.cons rfl .nil) q) fun res s' hq => ?_))
  match res, hq with
  | .error er, ⟨_, _, _, _, _, _, _, _, _, _, _, _, z⟩ => exact z.elim
  | .ok (.ret u), hq =>
    obtain ⟨v, H', I3, rv, ⟨z, rfl⟩, q3⟩ := I.after hq
    obtain ⟨t, rfl⟩ := rv
    exact ⟨.str z, H', I3, ⟨t, rfl⟩, q3⟩
end
section
variable {K : PySem.W.Frag} {σ : L2.St} {H : Hp} {x : V} {Q : VK} {D : Ends} {te : TE} {ts : List TE}
theorem x_joinF (h : tJs ts Str.empty σ H fun out H1 => Q (.str out) H1) : tJoinF ts σ H Q := h
theorem x_js {t : TE} {acc : Str} {QS : Str → Hp → Prop} (h : t σ H fun x H1 => ∃ y : Str, x = .str y ∧ (acc ++ y).length ≤ sizeLine ∧ tJs ts (acc ++ y) σ H1 QS) : tJs (t :: ts) acc σ H QS := h
theorem x_js0 {acc : Str} {QS : Str → Hp → Prop} (h : QS acc H) : tJs [] acc σ H QS := h
theorem x_fmtI {i : Int} (c : i.natAbs.log2 < 1920) (h : Q (.str (toString i)) H) : (∃ y : Str, V.int i = .str y ∧ y.length ≤ sizeLine ∧ Q (.str y) H) ∨ ∃ k : Int, V.int i = .int k ∧ k.natAbs.log2 < 1920 ∧ Q (.str (toString k)) H := .inr ⟨i, rfl, c, h⟩
theorem x_fmt (h : te σ H fun x H1 => (∃ y : Str, x = .str y ∧ y.length ≤ sizeLine ∧ Q (.str y) H1) ∨ ∃ i : Int, x = .int i ∧ i.natAbs.log2 < 1920 ∧ Q (.str (toString i)) H1) : tFmt te σ H Q := h
theorem x_isN (h : Q (.bl (decide (x = .non))) H) : rIsN x .non H Q := ⟨rfl, h⟩
theorem x_notN (h : Q (.bl (!decide (x = .non))) H) : rNotN x .non H Q := ⟨rfl, h⟩
theorem x_inT {i j : Str} (h : Q (.bl (Txt.contains j i)) H) : rInT (.str i) (.str j) H Q := ⟨i, j, rfl, rfl, h⟩
theorem x_notInT {i j : Str} (h : Q (.bl (!Txt.contains j i)) H) : rNotInT (.str i) (.str j) H Q := ⟨i, j, rfl, rfl, h⟩
theorem x_match {cs : List Mt.Mc} (h : te σ H fun x H1 => ∃ a xs, x = .ref a ∧ SqL K H1 a xs ∧ Mt.mCases K a xs cs D σ H1) : Mt.tMatch K te cs D σ H := h
end
end Xf

set_option Elab.async false
set_option maxRecDepth 100000
set_option maxHeartbeats 4000000
namespace K03
open PySem L2
local macro_rules | `(tactic| walk_at "hp") => `(tactic| first | assumption | exact upd_same | (refine Vc.h_new (by assumption) ?_; walk_at "hp") | (refine Vc.h_mut (by assumption) ?_; walk_at "hp"))
local macro_rules | `(tactic| walk_at "sq") => `(tactic| first | assumption | (refine SqL.of ?_; walk_at "hp") | (refine SqT.of ?_; walk_at "hp"))
local macro_rules | `(tactic| walk_at "v1") => `(tactic| first
  | with_reducible refine Vc.v_seq ?_
  | with_reducible refine Vc.v_ret ?_
  | with_reducible refine Vc.v_retN ?_
  | with_reducible refine Vc.v_drop ?_
  | with_reducible refine Vc.v_next ?_
  | with_reducible refine Vc.v_asg ?_
  | with_reducible refine Vc.v_ifS ?_
  | ((with_reducible refine' Vc.v_name ?vv ?_); (case vv => ((conv => lhs; simp only [List.set_cons_succ, List.set_cons_zero]); first | done | exact rfl)))
  | ((with_reducible refine' Vc.v_var ?vv ?_); (case vv => exact rfl))
  | with_reducible refine Vc.v_c ?_
  | with_reducible refine Vc.v_op ?_
  | with_reducible refine Vc.v_un ?_
  | with_reducible refine Vc.v_chain ?_
  | with_reducible refine Vc.v_test ?_
  | with_reducible refine Vc.v_B ?_
  | with_reducible refine Vc.v_and ?_
  | with_reducible refine Vc.v_or ?_
  | with_reducible refine Vc.v_not ?_
  | with_reducible refine Vc.v_andV ?_
  | with_reducible refine Vc.v_orV ?_
  | with_reducible refine Vc.v_notV ?_
  | with_reducible refine Vc.v_if ?_
  | with_reducible refine Vc.v_bl ?_
  | with_reducible refine Vc.v_blP ?_
  | with_reducible refine Vc.v_cb ?_
  | with_reducible refine Vc.v_call ?_
  | with_reducible refine Vc.v_nil ?_
  | with_reducible refine Vc.v_cons ?_
  | with_reducible refine Vc.v_lst ?_
  | with_reducible refine Vc.v_tup ?_
  | with_reducible refine Vc.v_m0 ?_
  | with_reducible refine Vc.v_m1 ?_
  | with_reducible refine Vc.v_strAnd ?_
  | with_reducible refine Vc.v_sl ?_
  | with_reducible refine Vc.v_noPart ?_
  | with_reducible refine Vc.v_part ?_
  | with_reducible refine Vc.v_int ?_
  | with_reducible refine Vc.v_I0 ?_
  | with_reducible refine Vc.v_U ?_
  | with_reducible refine Vc.v_addI ?_
  | with_reducible refine Vc.v_leU ?_
  | with_reducible refine Vc.v_geU ?_
  | with_reducible refine Vc.v_gtU ?_
  | with_reducible refine Vc.v_ltU ?_
  | with_reducible refine Vc.v_ltS ?_
  | with_reducible refine Vc.v_max2 ?_
  | with_reducible refine Vc.v_min2 ?_
  | with_reducible refine Vc.v_reprB ?_
  | with_reducible refine Vc.v_intI ?_
  | with_reducible refine Vc.v_intB ?_
  | with_reducible refine Vc.v_strS ?_
  | with_reducible refine Vc.v_par ?_
  | ((with_reducible refine' Vc.v_twoS ?vv ?_); (case vv => ((conv => lhs; simp only [List.set_cons_succ, List.set_cons_zero]); first | done | exact rfl)))
  | with_reducible refine Vc.v_iteT ?_
  | with_reducible refine Vc.v_iteF ?_
  | with_reducible refine Vc.v_iteFt ?_
  | with_reducible refine Vc.v_iteTf ?_
  | with_reducible refine Vc.v_for ?_
  | with_reducible refine Vc.v_yes ?_
  | with_reducible refine Vc.v_sm0 ?_
  | with_reducible refine Vc.v_callKn ?_
  | with_reducible refine Vc.v_gSub ?_
  | with_reducible refine Vc.v_disp ?_
  | with_reducible refine Vc.v_pnil ?_
  | with_reducible refine Vc.v_pcons ?_
  | with_reducible refine Vc.v_lc ?_
  | with_reducible refine Vc.v_iList ?_
  | with_reducible refine Vc.v_iRng1 ?_
  | with_reducible refine Vc.v_iRng2 ?_
  | with_reducible refine Vc.v_iStr ?_
  | with_reducible refine Vc.v_inS ?_
  | with_reducible refine Vc.v_notInS ?_)
local macro_rules | `(tactic| walk_at "v") => `(tactic| repeat walk_at "v1")
local macro_rules | `(tactic| walk_at "sz") => `(tactic| (simp only [List.length_cons, List.length_nil, List.length_append, List.length_map, List.length_set, Vc.szE]; first | decide | omega))
local macro_rules | `(tactic| walk_at "n1") => `(tactic| first
  | with_reducible refine Vc.v_seq ?_
  | with_reducible refine Vc.v_ret ?_
  | with_reducible refine Vc.v_retN ?_
  | with_reducible refine Vc.v_drop ?_
  | with_reducible refine Vc.v_next ?_
  | with_reducible refine Vc.v_asg ?_
  | with_reducible refine Vc.v_ifS ?_
  | ((with_reducible refine' Vc.v_name ?vv ?_); (case vv => ((conv => lhs; simp only [List.set_cons_succ, List.set_cons_zero]); first | done | exact rfl)))
  | ((with_reducible refine' Vc.v_var ?vv ?_); (case vv => exact rfl))
  | with_reducible refine Vc.v_c ?_
  | with_reducible refine Vc.v_op ?_
  | with_reducible refine Vc.v_un ?_
  | with_reducible refine Vc.v_chain ?_
  | with_reducible refine Vc.v_test ?_
  | with_reducible refine Vc.v_B ?_
  | with_reducible refine Vc.v_not ?_
  | with_reducible refine Vc.v_notV ?_
  | with_reducible refine Vc.v_if ?_
  | with_reducible refine Vc.v_bl ?_
  | with_reducible refine Vc.v_blP ?_
  | with_reducible refine Vc.v_cb ?_
  | with_reducible refine Vc.v_call ?_
  | with_reducible refine Vc.v_nil ?_
  | with_reducible refine Vc.v_cons ?_
  | with_reducible refine Vc.v_lst ?_
  | with_reducible refine Vc.v_tup ?_
  | with_reducible refine Vc.v_m0 ?_
  | with_reducible refine Vc.v_m1 ?_
  | with_reducible refine Vc.v_strAnd ?_
  | with_reducible refine Vc.v_sl ?_
  | with_reducible refine Vc.v_noPart ?_
  | with_reducible refine Vc.v_part ?_
  | with_reducible refine Vc.v_int ?_
  | with_reducible refine Vc.v_I0 ?_
  | with_reducible refine Vc.v_U ?_
  | with_reducible refine Vc.v_addI ?_
  | with_reducible refine Vc.v_leU ?_
  | with_reducible refine Vc.v_geU ?_
  | with_reducible refine Vc.v_gtU ?_
  | with_reducible refine Vc.v_ltU ?_
  | with_reducible refine Vc.v_ltS ?_
  | with_reducible refine Vc.v_max2 ?_
  | with_reducible refine Vc.v_min2 ?_
  | with_reducible refine Vc.v_reprB ?_
  | with_reducible refine Vc.v_intI ?_
  | with_reducible refine Vc.v_intB ?_
  | with_reducible refine Vc.v_strS ?_
  | with_reducible refine Vc.v_par ?_
  | ((with_reducible refine' Vc.v_twoS ?vv ?_); (case vv => ((conv => lhs; simp only [List.set_cons_succ, List.set_cons_zero]); first | done | exact rfl)))
  | with_reducible refine Vc.v_iteT ?_
  | with_reducible refine Vc.v_iteF ?_
  | with_reducible refine Vc.v_iteFt ?_
  | with_reducible refine Vc.v_iteTf ?_
  | with_reducible refine Vc.v_for ?_
  | with_reducible refine Vc.v_yes ?_
  | with_reducible refine Vc.v_sm0 ?_
  | with_reducible refine Vc.v_callKn ?_
  | with_reducible refine Vc.v_gSub ?_
  | with_reducible refine Vc.v_disp ?_
  | with_reducible refine Vc.v_pnil ?_
  | with_reducible refine Vc.v_pcons ?_
  | with_reducible refine Vc.v_lc ?_
  | with_reducible refine Vc.v_iList ?_
  | with_reducible refine Vc.v_iRng1 ?_
  | with_reducible refine Vc.v_iRng2 ?_
  | with_reducible refine Vc.v_iStr ?_
  | with_reducible refine Vc.v_inS ?_
  | with_reducible refine Vc.v_notInS ?_)
local macro_rules | `(tactic| walk_at "w1") => `(tactic| first
  | with_reducible refine Ow.w_call ?_
  | with_reducible refine Ow.w_make ?_
  | with_reducible refine Ow.w_meth ?_
  | with_reducible refine Ow.w_neg ?_
  | with_reducible refine Ow.w_bin ?_
  | with_reducible refine Ow.w_makeK ?_
  | with_reducible refine Ow.w_cmeth ?_
  | with_reducible refine Ow.w_cmethK ?_
  | with_reducible refine Ow.w_prop ?_
  | with_reducible refine Ow.w_fld ?_
  | with_reducible refine Ow.w_sfld ?_
  | with_reducible refine Ow.w_xf ?_
  | with_reducible refine Ow.w_raise ?_
  | with_reducible refine Ow.w_try ?_
  | ((with_reducible refine' Ow.w_gone ?vv ?_); (case vv => ((conv => lhs; simp only [List.set_cons_succ, List.set_cons_zero]); first | done | exact rfl)))
  | with_reducible refine Ow.w_and ?_)
local macro_rules | `(tactic| walk_at "w") => `(tactic| repeat (first | walk_at "v1" | walk_at "w1"))
local macro_rules | `(tactic| walk_at "n") => `(tactic| repeat (first | walk_at "n1" | walk_at "w1"))
local macro_rules | `(tactic| walk_at "x1") => `(tactic| first
  | with_reducible refine Xf.x_joinF ?_
  | with_reducible refine Xf.x_js ?_
  | with_reducible refine Xf.x_js0 ?_
  | with_reducible refine Xf.x_fmt ?_
  | with_reducible refine Xf.x_isN ?_
  | with_reducible refine Xf.x_notN ?_
  | with_reducible refine Xf.x_inT ?_
  | with_reducible refine Xf.x_notInT ?_
  | with_reducible refine Xf.x_match ?_)
local macro_rules | `(tactic| walk_at "x") => `(tactic| repeat (first | walk_at "v1" | walk_at "w1" | walk_at "x1"))
local macro_rules | `(tactic| walk_at "y") => `(tactic| repeat (first | walk_at "n1" | walk_at "w1" | walk_at "x1"))

def topS (i : Nat) : Stmt := PySem.Challenge.pw_surehollows_k03_bounds_as_text.main.body.getD i (.Pass ⟨0, 0, 0, 0⟩)
structure Bt (mg : Str → Option Value) (mt : Tok) (CB : Addr) : Prop where
  b_isinstance : mg "isinstance" = none
  b_int : mg "int" = none
  b_bool : mg "bool" = none
  b_str : mg "str" = none
  b_len : mg "len" = none
  b_max : mg "max" = none
  b_min : mg "min" = none
  b_abs : mg "abs" = none
  b_repr : mg "repr" = none
  b_range : mg "range" = none
  g_MOST_HEIGHT : mg "MOST_HEIGHT" = some (.int 1000000000000 mt)
  c_Bounds : mg "Bounds" = some (.ref CB)
/-- values of the kinds that are asked of -/
inductive Kd (K : PySem.W.Frag) (H : Hp) : V → String → Prop where
  | non : Kd K H .non "NoneType"
  | bl (b : Bool) : Kd K H (.bl b) "bool"
  | int (i : Int) : Kd K H (.int i) "int"
  | str (z : Str) (h : z.length ≤ sizeLine) : Kd K H (.str z) "str"
  | lst {a : Addr} {xs : List V} (e : H a = some (.lst xs)) : Kd K H (.ref a) "list"
  | tup {a : Addr} {xs : List V} (e : H a = some (.tup xs)) : Kd K H (.ref a) "tuple"
  | dK {a : Addr} {xs : List (Key × V)} (e : H a = some (.dK xs)) : Kd K H (.ref a) "dict"
theorem Kd.ty {K : PySem.W.Frag} {H : Hp} {v : V} {t : String} (h : Kd K H v t) : TyX K H v (.type t) := by
  cases h with
  | non => exact .base .non
  | bl b => exact .base (.bl b)
  | int i => exact .base (.int i)
  | str z h => exact .base (.str z)
  | lst e => exact .base (.lst e)
  | tup e => exact .base (.tup e)
  | dK e => exact .base (.dK e)
def vI : V → Bool
  | .int _ => true
  | .bl _ => true
  | _ => false
def vB : V → Bool
  | .bl _ => true
  | _ => false
def vS : V → Bool
  | .str _ => true
  | _ => false
theorem Kd.kI {K : PySem.W.Frag} {H : Hp} {v : V} {t : String} (h : Kd K H v t) : PySem.W.kitOne K (.type t) (.type "int") = some (vI v) := by
  cases h <;> first | exact kit_ty (r := true) (by decide +kernel) | exact kit_ty (r := false) (by decide +kernel)
theorem Kd.kB {K : PySem.W.Frag} {H : Hp} {v : V} {t : String} (h : Kd K H v t) : PySem.W.kitOne K (.type t) (.type "bool") = some (vB v) := by
  cases h <;> first | exact kit_ty (r := true) (by decide +kernel) | exact kit_ty (r := false) (by decide +kernel)
theorem Kd.kS {K : PySem.W.Frag} {H : Hp} {v : V} {t : String} (h : Kd K H v t) : PySem.W.kitOne K (.type t) (.type "str") = some (vS v) := by
  cases h <;> first | exact kit_ty (r := true) (by decide +kernel) | exact kit_ty (r := false) (by decide +kernel)
def isHt : V → Bool
  | .int i => decide (-1000000000000 ≤ i ∧ i ≤ 1000000000000)
  | _ => false
def sp_is_height (K : PySem.W.Frag) : Sp := fun vs H Q _ => ∃ v t, vs = [v] ∧ Kd K H v t ∧ Q (.bl (isHt v)) H
abbrev s_is_height : Stmt := topS 9
abbrev n_is_height : List Str := ["value"]
theorem sc_is_height : FnScope n_is_height ["value"] (defScope s_is_height) := ⟨rfl, rfl, rfl, by decide +kernel, rfl, by decide +kernel, by decide +kernel⟩


section
variable {P : Program} {w : World} {K : PySem.W.Frag} {mg : Str → Option Value} {base : Heap} {mt : Tok} {CB : Addr}
theorem ok_is_height {f : Addr} {fd : FuncData} (F : Fun K "is_height" "is_height" s_is_height f fd) (B : Bt mg mt CB) : FnOk P w K mg base CX0 1 f fd ["value"] (sp_is_height K) := by
  refine F.ok sc_is_height (fun vs H Q E h => ?_) (fun cdv A outer s H vs Q E hr h => ?_)
  · obtain ⟨v, t, rfl, _⟩ := h
    rfl
  · obtain ⟨v, ty, rfl, hk, k⟩ := h
    refine ⟨_, (pss_cons (ps_if (PW.pt (pw_or (pt_not (pt_val (pe_callB (Vc.call_isiU K) (by rfl) B.b_isinstance (by decide +kernel) (pa_cons (pv 0) (pa_cons (pe_bltn (v := .ty "int") (by rfl) B.b_int (by decide +kernel) rfl) pa_nil))))) (pw_or1 (pt_val (pe_callB (Vc.call_isiU K) (by rfl) B.b_isinstance (by decide +kernel) (pa_cons (pv 0) (pa_cons (pe_bltn (v := .ty "bool") (by rfl) B.b_bool (by decide +kernel) rfl) pa_nil))))))) (pss_one (ps_ret pe_bl)) pss_nil)
      (pss_one (ps_ret (pe_chain Vc.op_leU Vc.op_leU (pe_un un_neg (pe_glob (v := .int 1000000000000) rfl B.g_MOST_HEIGHT ⟨_, rfl⟩)) (pv 0) (pe_glob (v := .int 1000000000000) rfl B.g_MOST_HEIGHT ⟨_, rfl⟩))))), ?_⟩
    refine Vc.v_start (σ' := [some v]) rfl ?_
    walk_at "v"
    refine Vc.v_isi (.ty "int") hk.ty hk.kI ?_
    walk_at "v"
    have hB : TyX K H v (.type ty) := hk.ty
    have kB := hk.kB
    cases hk with
    | int i =>
      refine Vc.v_iteE (c := false) rfl ?_
      walk_at "v"
      refine Vc.v_isi (.ty "bool") hB kB ?_
      walk_at "v"
      refine Vc.v_iteE (c := false) rfl ?_
      walk_at "v"
      refine Vc.v_iteD (fun h1 => ?_) (fun h1 => ?_)
      · walk_at "v"
        have e : decide (i ≤ 1000000000000) = isHt (.int i) := by
          unfold isHt
          rw [decide_eq_decide]
          omega
        rw [e]
        exact k
      · have e : false = isHt (.int i) := by
          unfold isHt
          rw [eq_comm, decide_eq_false_iff_not]
          omega
        rw [e]
        exact k
    | bl b =>
      refine Vc.v_iteE (c := false) rfl ?_
      walk_at "v"
      refine Vc.v_isi (.ty "bool") hB kB ?_
      walk_at "v"
      exact k
    | non => exact k
    | str z h => exact k
    | lst e => exact k
    | tup e => exact k
    | dK e => exact k

structure BoxAt (H : Hp) (b : Addr) (n : Nat) : Prop where
  ex : ∃ g r c : Int, H b = some (.lst [.int g, .int r, .int c]) ∧ 0 ≤ r ∧ r < 2147483629 ∧ 0 ≤ c ∧ c ≤ n
def sp_cell (K : PySem.W.Frag) : Sp := fun vs H Q _ => ∃ a k, ∃ ns : List Int, vs = [.ref a, .int k] ∧ SqL K H a (ns.map V.int) ∧ 0 ≤ k ∧ k ≤ 1000 ∧ ∀ z, Q (.int z) H
def sp_box : Sp := fun vs H Q _ => ∃ z, vs = [.int z] ∧ ∀ p H', H p = none → BoxAt H' p 0 → Same H H' → Q (.ref p) H'
def sp_take : Sp := fun vs H Q _ => ∃ b m n, vs = [.ref b, .int m] ∧ BoxAt H b n ∧ n < 100000 ∧ 0 < m ∧ m ≤ 1000000000000 ∧ ∀ d H', 0 ≤ d → d < m → BoxAt H' b (n + 1) → Vc.But b H H' → Q (.int d) H'
abbrev s__law_cell : Stmt := topS 14
abbrev n__law_cell : List Str := ["_law_script", "_law_k"]
theorem sc__law_cell : FnScope n__law_cell ["_law_script", "_law_k"] (defScope s__law_cell) := ⟨rfl, rfl, rfl, by decide +kernel, rfl, by decide +kernel, by decide +kernel⟩

abbrev s__law_box : Stmt := topS 15
abbrev n__law_box : List Str := ["_law_cell_here"]
theorem sc__law_box : FnScope n__law_box ["_law_cell_here"] (defScope s__law_box) := ⟨rfl, rfl, rfl, by decide +kernel, rfl, by decide +kernel, by decide +kernel⟩

abbrev s__law_take : Stmt := topS 16
abbrev n__law_take : List Str := ["_law_box_here", "_law_many", "_law_digit", "_law_one", "_law_two"]
theorem sc__law_take : FnScope n__law_take ["_law_box_here", "_law_many"] (defScope s__law_take) := ⟨rfl, rfl, rfl, by decide +kernel, rfl, by decide +kernel, by decide +kernel⟩

theorem atI_ints {ns : List Int} {k : Int} (h0 : 0 ≤ k) (h1 : k < ns.length) : ∃ z, atI (ns.map V.int) k = some (.int z) := by
  have h : k.toNat < ns.length := by omega
  refine ⟨ns[k.toNat], ?_⟩
  unfold atI ixN
  rw [if_pos h0, List.length_map, if_pos h1]
  show (ns.map V.int)[k.toNat]? = _
  rw [List.getElem?_map, List.getElem?_eq_getElem h]
  rfl
theorem ok_cell {f : Addr} {fd : FuncData} (F : Fun K "_law_cell" "_law_cell" s__law_cell f fd) (B : Bt mg mt CB) : FnOk P w K mg base CX0 1 f fd ["_law_script", "_law_k"] (sp_cell K) := by
  refine F.ok sc__law_cell (fun vs H Q E h => ?_) (fun cdv A outer s H vs Q E hr h => ?_)
  · obtain ⟨v, t, ns, rfl, _⟩ := h
    rfl
  · obtain ⟨a, i, ns, rfl, hs, h0, h1, k⟩ := h
    refine ⟨_, (pss_one (ps_ret (pe_ifExp (pt_cmpR Vc.op_ltU (pv 1) (pe_callB (Vc.call_lenU K) (by rfl) B.b_len (by decide +kernel) (pa_cons (pv 0) pa_nil)) (nomark _)) (pe_ix (Vc.ix_U K) (pv 0) (pv 1) (fun _ _ => rfl)) (pe_op Vc.op_addU (pe_op Vc.op_mulU pe_int (pv 1)) pe_int)))), ?_⟩
    refine Vc.v_start (σ' := [some (.ref a), some (.int i)]) rfl ?_
    walk_at "v"
    refine Vc.v_lenL hs ?_
    walk_at "v"
    refine Vc.v_iteD (fun h2 => ?_) (fun h2 => ?_)
    · walk_at "v"
      rw [List.length_map] at h2
      obtain ⟨z, hz⟩ := atI_ints h0 h2
      exact Vc.v_ixL hs hz (k z)
    · walk_at "v"
      refine Vc.v_mulI (.inl ⟨by decide, by decide⟩) ?_
      walk_at "v"
      exact k _
theorem ok_box {f : Addr} {fd : FuncData} (F : Fun K "_law_box" "_law_box" s__law_box f fd) (B : Bt mg mt CB) : FnOk P w K mg base CX0 1 f fd ["_law_cell_here"] sp_box := by
  refine F.ok sc__law_box (fun vs H Q E h => ?_) (fun cdv A outer s H vs Q E hr h => ?_)
  · obtain ⟨v, rfl, _⟩ := h
    rfl
  · obtain ⟨z, rfl, k⟩ := h
    refine ⟨_, (pss_one (ps_ret (pe_lst (pa_cons (pe_callB (Vc.call_maxU K rfl) (by rfl) B.b_max (by decide +kernel) (pa_cons pe_int (pa_cons (pe_op op_sub (pv 0) (pe_op op_pow pe_int pe_int)) pa_nil))) (pa_cons (pe_op op_mod (pe_callTy Vc.call_intU (by rfl) B.b_int (by decide +kernel) (pa_cons (pv 0) pa_nil)) pe_int) (pa_cons pe_int pa_nil)))))), ?_⟩
    refine Vc.v_start (σ' := [some (.int z)]) rfl ?_
    walk_at "v"
    refine Vc.v_I ⟨by decide, by decide, by decide⟩ ?_
    walk_at "v"
    refine Vc.v_I (by decide) ?_
    walk_at "v"
    refine ⟨by walk_at "sz", fun p hp => ?_⟩
    refine k p _ hp ⟨_, _, _, upd_same, Int.emod_nonneg _ (by decide), Int.emod_lt_of_pos _ (by decide), by decide, by decide⟩ (fun b o e => Vc.h_new hp e)
theorem ok_take {f : Addr} {fd : FuncData} (F : Fun K "_law_take" "_law_take" s__law_take f fd) (B : Bt mg mt CB) : FnOk P w K mg base CX0 1 f fd ["_law_box_here", "_law_many"] sp_take := by
  refine F.ok sc__law_take (fun vs H Q E h => ?_) (fun cdv A outer s H vs Q E hr h => ?_)
  · obtain ⟨v, m, n, rfl, _⟩ := h
    rfl
  · obtain ⟨b, m, n, rfl, ⟨g, r, c, hb, hr0, hr1, hc0, hc1⟩, hn, hm0, hm1, k⟩ := h
    refine ⟨_, (pss_cons (ps_if (pt_cmpR Vc.op_gtU (pe_ix (Vc.ix_U K) (pv 0) pe_int (fun _ _ => rfl)) pe_int (nomark _)) (pss_cons (ps_set (i := 2) sc__law_take.nd rfl (Or.inl rfl) (pe_op op_mod (pe_callTy Vc.call_intU (by rfl) B.b_int (by decide +kernel) (pa_cons (pe_ix (Vc.ix_U K) (pv 0) pe_int (fun _ _ => rfl)) pa_nil)) (pv 1)))
      (pss_cons (ps_asg (pe_op op_fdivW (pe_ix (Vc.ix_U K) (pv 0) pe_int (fun _ _ => rfl)) (pv 1)) (pg_sub (pv 0) pe_int set_list))
      (pss_one (ps_ret (pv 2))))) pss_nil)
      (pss_cons (ps_asg (pe_op Vc.op_addU (pe_ix (Vc.ix_U K) (pv 0) pe_int (fun _ _ => rfl)) pe_int) (pg_sub (pv 0) pe_int set_list))
      (pss_cons (ps_set (i := 3) sc__law_take.nd rfl (Or.inl rfl) (pe_op op_mod (pe_op op_pow (pe_callTy Vc.call_intU (by rfl) B.b_int (by decide +kernel) (pa_cons (pe_op Vc.op_addU (pe_op Vc.op_addU (pe_ix (Vc.ix_U K) (pv 0) pe_int (fun _ _ => rfl)) (pe_op Vc.op_mulU pe_int (pe_ix (Vc.ix_U K) (pv 0) pe_int (fun _ _ => rfl)))) pe_int) pa_nil)) pe_int) pe_int))
      (pss_cons (ps_set (i := 4) sc__law_take.nd rfl (Or.inl rfl) (pe_op op_mod (pe_op op_pow (pe_callTy Vc.call_intU (by rfl) B.b_int (by decide +kernel) (pa_cons (pe_op Vc.op_addU (pe_op Vc.op_addU (pe_op op_fdivW (pv 3) pe_int) (pe_op Vc.op_mulU (pe_op Vc.op_mulU pe_int (pe_ix (Vc.ix_U K) (pv 0) pe_int (fun _ _ => rfl))) (pe_ix (Vc.ix_U K) (pv 0) pe_int (fun _ _ => rfl)))) pe_int) pa_nil)) pe_int) pe_int))
      (pss_one (ps_ret (pe_op op_mod (pe_callTy Vc.call_intU (by rfl) B.b_int (by decide +kernel) (pa_cons (pe_op Vc.op_addU (pe_op op_fdivW (pv 3) pe_int) (pe_op Vc.op_mulU pe_int (pe_op op_fdivW (pv 4) pe_int))) pa_nil)) (pv 1)))))))), ?_⟩
    refine Vc.v_start (σ' := [some (.ref b), some (.int m), none, none, none]) rfl ?_
    walk_at "v"
    refine Vc.v_ixL (SqL.of hb) (by rfl) ?_
    walk_at "v"
    refine Vc.v_iteD (fun h2 => ?_) (fun h2 => ?_)
    · walk_at "v"
      refine Vc.v_ixL (SqL.of hb) (by rfl) ?_
      walk_at "v"
      refine Vc.v_I hm0 ?_
      walk_at "v"
      refine Vc.v_ixL (SqL.of hb) (by rfl) ?_
      walk_at "v"
      refine Vc.v_div hm0 hm1 ?_
      walk_at "v"
      refine Vc.v_setL hb (by rfl) ?_
      walk_at "v"
      exact k _ _ (Int.emod_nonneg _ (by omega)) (Int.emod_lt_of_pos _ hm0) ⟨_, _, _, upd_same, hr0, hr1, hc0, by omega⟩ (Vc.But.at (Vc.But.refl b H))
    · walk_at "v"
      refine Vc.v_ixL (SqL.of hb) (by rfl) ?_
      walk_at "v"
      refine Vc.v_setL hb (by rfl) ?_
      walk_at "v"
      have hb' : ∀ x, upd H b (.lst x) b = some (.lst x) := fun x => upd_same
      refine Vc.v_ixL (SqL.of (hb' _)) (by rfl) ?_
      walk_at "v"
      refine Vc.v_ixL (SqL.of (hb' _)) (by rfl) ?_
      walk_at "v"
      refine Vc.v_mulI (.inl ⟨by decide, by decide⟩) ?_
      walk_at "v"
      refine Vc.v_I ⟨by decide, by decide, by omega⟩ ?_
      walk_at "v"
      refine Vc.v_I (by decide) ?_
      walk_at "v"
      generalize hx : (r + 15485863 * (c + 1) + 83) ^ Int.toNat 5 % 2147483647 = x
      have hx0 : 0 ≤ x := by rw [← hx]; exact Int.emod_nonneg _ (by decide)
      have hx1 : x < 2147483647 := by rw [← hx]; exact Int.emod_lt_of_pos _ (by decide)
      refine Vc.v_div (by decide) (by decide) ?_
      walk_at "v"
      refine Vc.v_ixL (SqL.of (hb' _)) (by rfl) ?_
      walk_at "v"
      refine Vc.v_mulI (.inl ⟨by decide, by decide⟩) ?_
      walk_at "v"
      refine Vc.v_ixL (SqL.of (hb' _)) (by rfl) ?_
      walk_at "v"
      refine Vc.v_mulI (.inr ⟨by omega, by omega⟩) ?_
      walk_at "v"
      have hq : 96581 * (c + 1) * (c + 1) ≤ 96581 * 100001 * 100001 := Int.mul_le_mul (by omega) (by omega) (by omega) (by decide)
      have hq0 : 0 ≤ 96581 * (c + 1) * (c + 1) := Int.mul_nonneg (by omega) (by omega)
      refine Vc.v_I ⟨by decide, by decide, by omega⟩ ?_
      walk_at "v"
      refine Vc.v_I (by decide) ?_
      walk_at "v"
      refine Vc.v_div (by decide) (by decide) ?_
      walk_at "v"
      refine Vc.v_div (by decide) (by decide) ?_
      walk_at "v"
      refine Vc.v_mulI (.inl ⟨by decide, by decide⟩) ?_
      walk_at "v"
      refine Vc.v_I hm0 ?_
      exact k _ _ (Int.emod_nonneg _ (by omega)) (Int.emod_lt_of_pos _ hm0) ⟨_, _, _, upd_same, hr0, hr1, by omega, by omega⟩ (Vc.But.at (Vc.But.refl b H))


end
/-! ### texts of numbers and of bounds -/
def oV : Option Int → V
  | none => .non
  | some n => .int n
def dots : List Nat := [46, 46]
def endsP (L : List Nat) : Option (Int × Int) := match (TL.spl dots 0 [] L).map Nu.numP with
  | [some n] => some (n, n)
  | [some a, some b] => if a < b then some (a, b) else none
  | _ => none
theorem numP_bd {L : List Nat} {n : Int} (h : Nu.numP L = some n) : -1000000000000 ≤ n ∧ n ≤ 1000000000000 := by
  unfold Nu.numP at h
  split at h
  · rename_i c
    cases h
    exact c.2.2.2.2
  · cases h
theorem endsP_bd {L : List Nat} {a b : Int} (h : endsP L = some (a, b)) : -1000000000000 ≤ a ∧ a ≤ b ∧ b ≤ 1000000000000 := by
  have key : ∀ p ∈ (TL.spl dots 0 [] L).map Nu.numP, ∀ n, p = some n → -1000000000000 ≤ n ∧ n ≤ 1000000000000 := fun p hp n e => by
    obtain ⟨q, _, rfl⟩ := List.mem_map.mp hp
    exact numP_bd e
  unfold endsP at h
  revert h key
  generalize (TL.spl dots 0 [] L).map Nu.numP = P
  intro h key
  match P, key, h with
  | [some n], key, h =>
    cases h
    have := key (some a) (by simp) a rfl
    omega
  | [some x, some y], key, h =>
    have h' : (if x < y then some (x, y) else none) = some (a, b) := h
    split at h'
    · cases h'
      have h1 := key (some a) (by simp) a rfl
      have h2 := key (some b) (by simp) b rfl
      omega
    · cases h'
/-- the first dots: none, or at i -/
theorem dots_at (L : List Nat) : (∀ i, TL.pre dots (L.drop i) = false) ∨ ∃ i, TL.pre dots (L.drop i) = true ∧ i + 2 ≤ L.length ∧ ∀ k, k < i → TL.pre dots (L.drop k) = false := by
  rcases PyProof.Rows.find_whole (SX.S L) (SX.S dots) with ⟨_, h⟩ | ⟨i, _, h, h2⟩
  · exact .inl fun i => TL.no_at (x := SX.S L) (y := SX.S dots) (by simp [dots]) (h i)
  · refine .inr ⟨i, (TL.at_iff (x := SX.S L) (y := SX.S dots) (by simp [dots]) i).mp h, ?_, fun k hk => TL.no_at (x := SX.S L) (y := SX.S dots) (by simp [dots]) (h2 k hk)⟩
    have := h.1
    rw [SX.S_len, SX.S_len] at this
    exact this
theorem spl_no {L : List Nat} (h : ∀ i, TL.pre dots (L.drop i) = false) : TL.spl dots 0 [] L = [L] := by
  rw [TL.spl_last fun i _ => h i]
  rfl
theorem spl_yes {L : List Nat} {i : Nat} (h : TL.pre dots (L.drop i) = true) (hl : i + 2 ≤ L.length) (h2 : ∀ k, k < i → TL.pre dots (L.drop k) = false) : TL.spl dots 0 [] L = L.take i :: TL.spl dots 0 [] (L.drop (i + 2)) := by
  have h3 := TL.spl_run dots L i 0 [] (by omega) (fun k _ hk => h2 k (by omega))
  have h4 := TL.spl_at (S := dots) (L := L) (by simp [dots]) (c := i) (acc := L.take i) h
  simp only [List.drop_zero, Nat.zero_add, List.nil_append] at h3
  rw [h3, h4]
  rfl
theorem numP_dot {L : List Nat} (h : 46 ∈ L) : Nu.numP L = none := by
  unfold Nu.numP
  refine if_neg ?_
  rintro ⟨_, ha, _⟩
  have hm : 46 ∈ Nu.dg L := by
    unfold Nu.dg
    split
    · rename_i hn
      cases L with
      | nil => cases h
      | cons a r =>
        have h1 : (some a == some 45) = true := hn
        rw [beq_iff_eq] at h1
        rcases List.mem_cons.mp h with h2 | h2
        · have := Option.some.inj h1
          omega
        · exact h2
    · exact h
  have := Nu.alld.mp ha 46 hm
  omega
theorem pre_mem {L : List Nat} {i : Nat} (h : TL.pre dots (L.drop i) = true) : 46 ∈ L := by
  unfold TL.pre at h
  have h1 : (L.drop i).take 2 = [46, 46] := by
    have := eq_of_beq h
    simpa [dots] using this
  have h2 : 46 ∈ (L.drop i).take 2 := by rw [h1]; simp
  exact List.mem_of_mem_drop (List.mem_of_mem_take h2)
/-- the law's own reading -/
def dueP (L : List Nat) : Option Int × Option Int := match endsP L with
  | some (a, b) => (some a, some b)
  | none => (none, none)
theorem due_no {L : List Nat} (h : ∀ i, TL.pre dots (L.drop i) = false) : dueP L = (Nu.numP L, Nu.numP L) := by
  unfold dueP endsP
  rw [spl_no h]
  show (match (match [Nu.numP L] with | [some n] => some (n, n) | [some a, some b] => if a < b then some (a, b) else none | _ => none) with | some (a, b) => (some a, some b) | none => (none, none)) = _
  cases Nu.numP L <;> rfl
theorem due_yes {L : List Nat} {i : Nat} (h : TL.pre dots (L.drop i) = true) (hl : i + 2 ≤ L.length) (h2 : ∀ k, k < i → TL.pre dots (L.drop k) = false) :
    dueP L = if (Nu.numP (L.take i)).isSome = true ∧ (Nu.numP (L.drop (i + 2))).isSome = true ∧ (Nu.numP (L.take i)).getD 0 < (Nu.numP (L.drop (i + 2))).getD 0 then (Nu.numP (L.take i), Nu.numP (L.drop (i + 2))) else (none, none) := by
  unfold dueP endsP
  rw [spl_yes h hl h2]
  rcases dots_at (L.drop (i + 2)) with h3 | ⟨j, h3, h4, h5⟩
  · rw [spl_no h3]
    show (match (match [Nu.numP (L.take i), Nu.numP (L.drop (i + 2))] with | [some n] => some (n, n) | [some a, some b] => if a < b then some (a, b) else none | _ => none) with | some (a, b) => (some a, some b) | none => (none, none)) = _
    cases e1 : Nu.numP (L.take i) with
    | none => simp
    | some a =>
      cases e2 : Nu.numP (L.drop (i + 2)) with
      | none => simp
      | some b =>
        by_cases hab : a < b
        · simp [hab]
        · simp [hab]
  · rw [spl_yes h3 h4 h5, numP_dot (pre_mem h3)]
    have hz : ∀ (p q : Option Int) (r : List (Option Int)), r ≠ [] → (match (match p :: q :: r with | [some n] => some (n, n) | [some a, some b] => if a < b then some (a, b) else none | _ => (none : Option (Int × Int))) with | some (a, b) => ((some a, some b) : Option Int × Option Int) | none => (none, none)) = (none, none) := by
      intro p q r hr
      cases r with
      | nil => exact absurd rfl hr
      | cons x y => cases p <;> cases q <;> rfl
    rw [List.map_cons, List.map_cons]
    rw [hz]
    · simp
    · intro z
      have := congrArg List.length z
      rw [List.length_map] at this
      have hne : (TL.spl dots 0 [] ((L.drop (i + 2)).drop (j + 2))).length ≠ 0 := by
        rcases dots_at ((L.drop (i + 2)).drop (j + 2)) with g | ⟨m, g1, g2, g3⟩
        · rw [spl_no g]
          simp
        · rw [spl_yes g1 g2 g3]
          simp
      exact hne this

def sp_number_of : Sp := fun vs H Q _ => ∃ z, vs = [.str z] ∧ z.length ≤ 100000 ∧ Q (oV (Nu.numP (TL.tl z))) H
theorem uniD : ∀ c : Nat, c < 128 → Unicode.isDigit c = decide (48 ≤ c ∧ c ≤ 57) := by decide +kernel
theorem isd_iff (z : Str) : (Txt.isascii z && Txt.isdigit z) = decide (TL.tl z ≠ [] ∧ (TL.tl z).all (fun c => decide (48 ≤ c) && decide (c ≤ 57)) = true) := by
  rw [Bool.eq_iff_iff, Bool.and_eq_true, decide_eq_true_eq, Nu.alld]
  unfold Txt.isascii Txt.isdigit
  rw [← Array.all_toList, ← Array.all_toList]
  simp only [Bool.and_eq_true, List.all_eq_true, decide_eq_true_eq]
  constructor
  · rintro ⟨ha, h0, hb⟩
    refine ⟨fun z0 => ?_, fun c hc => ?_⟩
    · have h1 : z.cps.size = 0 := by
        have := congrArg List.length z0
        simpa using this
      have h2 : 0 < z.cps.size := h0
      omega
    · have u := uniD c (ha c hc)
      have h1 := hb c hc
      rw [u, decide_eq_true_eq] at h1
      exact h1
  · rintro ⟨h0, h⟩
    refine ⟨fun c hc => by have := h c hc; omega, ?_, fun c hc => ?_⟩
    · have h1 : (TL.tl z).length ≠ 0 := fun z0 => h0 (List.length_eq_zero_iff.mp z0)
      have h2 : (TL.tl z).length = z.cps.size := Array.length_toList
      show 0 < z.cps.size
      omega
    · have h1 := h c hc
      rw [uniD c (by omega), decide_eq_true_eq]
      exact h1
theorem dg_pre (z : Str) : TL.tl (Txt.removeprefix z "-") = Nu.dg (TL.tl z) := by
  have key := TL.at_iff (x := z) (y := "-") (by decide +kernel) 0
  rw [List.drop_zero] at key
  have ey : TL.tl ("-" : Str) = [45] := by decide +kernel
  have hl : ("-" : Str).length = 1 := by decide +kernel
  rw [ey] at key
  have hp : TL.pre [45] (TL.tl z) = Nu.neg (TL.tl z) := by
    cases TL.tl z with
    | nil => rfl
    | cons a r =>
      rw [Bool.eq_iff_iff]
      unfold TL.pre Nu.neg
      simp
  unfold Txt.removeprefix
  by_cases h : Builtin.Str.subAt z "-" 0 = true
  · rw [if_pos h]
    by_cases hz : 0 + ("-" : Str).length ≤ z.length
    · have hn : Nu.neg (TL.tl z) = true := by rw [← hp]; exact key.mp ⟨hz, h⟩
      unfold Nu.dg
      rw [if_pos hn]
      show TL.tl (if (z.length - ("-" : Str).length == z.length) = true then z else Builtin.Str.strSub z ("-" : Str).length z.length) = _
      rw [hl] at hz ⊢
      rw [if_neg (by simp; omega), TL.tl_strSub_end, List.drop_one]
    · exfalso
      rw [hl] at hz
      have h0 : TL.tl z = [] := List.length_eq_zero_iff.mp (by rw [← TL.len_tl]; omega)
      have e : z = "" := TL.ext_tl (by rw [h0]; decide +kernel)
      rw [e] at h
      revert h
      decide +kernel
  · rw [if_neg h]
    have hn : Nu.neg (TL.tl z) = false := by
      rw [← hp, Bool.eq_false_iff]
      intro e
      exact h (key.mpr e).2
    unfold Nu.dg
    rw [hn, if_neg (by decide)]
    rfl

end K03

set_option Elab.async false
set_option maxRecDepth 100000
set_option maxHeartbeats 4000000
namespace K03
open PySem L2
local macro_rules | `(tactic| walk_at "hp") => `(tactic| first | assumption | exact upd_same | (refine Vc.h_new (by assumption) ?_; walk_at "hp") | (refine Vc.h_mut (by assumption) ?_; walk_at "hp"))
local macro_rules | `(tactic| walk_at "sq") => `(tactic| first | assumption | (refine SqL.of ?_; walk_at "hp") | (refine SqT.of ?_; walk_at "hp"))
local macro_rules | `(tactic| walk_at "v1") => `(tactic| first
  | with_reducible refine Vc.v_seq ?_
  | with_reducible refine Vc.v_ret ?_
  | with_reducible refine Vc.v_retN ?_
  | with_reducible refine Vc.v_drop ?_
  | with_reducible refine Vc.v_next ?_
  | with_reducible refine Vc.v_asg ?_
  | with_reducible refine Vc.v_ifS ?_
  | ((with_reducible refine' Vc.v_name ?vv ?_); (case vv => ((conv => lhs; simp only [List.set_cons_succ, List.set_cons_zero]); first | done | exact rfl)))
  | ((with_reducible refine' Vc.v_var ?vv ?_); (case vv => exact rfl))
  | with_reducible refine Vc.v_c ?_
  | with_reducible refine Vc.v_op ?_
  | with_reducible refine Vc.v_un ?_
  | with_reducible refine Vc.v_chain ?_
  | with_reducible refine Vc.v_test ?_
  | with_reducible refine Vc.v_B ?_
  | with_reducible refine Vc.v_and ?_
  | with_reducible refine Vc.v_or ?_
  | with_reducible refine Vc.v_not ?_
  | with_reducible refine Vc.v_andV ?_
  | with_reducible refine Vc.v_orV ?_
  | with_reducible refine Vc.v_notV ?_
  | with_reducible refine Vc.v_if ?_
  | with_reducible refine Vc.v_bl ?_
  | with_reducible refine Vc.v_blP ?_
  | with_reducible refine Vc.v_cb ?_
  | with_reducible refine Vc.v_call ?_
  | with_reducible refine Vc.v_nil ?_
  | with_reducible refine Vc.v_cons ?_
  | with_reducible refine Vc.v_lst ?_
  | with_reducible refine Vc.v_tup ?_
  | with_reducible refine Vc.v_m0 ?_
  | with_reducible refine Vc.v_m1 ?_
  | with_reducible refine Vc.v_strAnd ?_
  | with_reducible refine Vc.v_sl ?_
  | with_reducible refine Vc.v_noPart ?_
  | with_reducible refine Vc.v_part ?_
  | with_reducible refine Vc.v_int ?_
  | with_reducible refine Vc.v_I0 ?_
  | with_reducible refine Vc.v_U ?_
  | with_reducible refine Vc.v_addI ?_
  | with_reducible refine Vc.v_leU ?_
  | with_reducible refine Vc.v_geU ?_
  | with_reducible refine Vc.v_gtU ?_
  | with_reducible refine Vc.v_ltU ?_
  | with_reducible refine Vc.v_ltS ?_
  | with_reducible refine Vc.v_max2 ?_
  | with_reducible refine Vc.v_min2 ?_
  | with_reducible refine Vc.v_reprB ?_
  | with_reducible refine Vc.v_intI ?_
  | with_reducible refine Vc.v_intB ?_
  | with_reducible refine Vc.v_strS ?_
  | with_reducible refine Vc.v_par ?_
  | ((with_reducible refine' Vc.v_twoS ?vv ?_); (case vv => ((conv => lhs; simp only [List.set_cons_succ, List.set_cons_zero]); first | done | exact rfl)))
  | with_reducible refine Vc.v_iteT ?_
  | with_reducible refine Vc.v_iteF ?_
  | with_reducible refine Vc.v_iteFt ?_
  | with_reducible refine Vc.v_iteTf ?_
  | with_reducible refine Vc.v_for ?_
  | with_reducible refine Vc.v_yes ?_
  | with_reducible refine Vc.v_sm0 ?_
  | with_reducible refine Vc.v_callKn ?_
  | with_reducible refine Vc.v_gSub ?_
  | with_reducible refine Vc.v_disp ?_
  | with_reducible refine Vc.v_pnil ?_
  | with_reducible refine Vc.v_pcons ?_
  | with_reducible refine Vc.v_lc ?_
  | with_reducible refine Vc.v_iList ?_
  | with_reducible refine Vc.v_iRng1 ?_
  | with_reducible refine Vc.v_iRng2 ?_
  | with_reducible refine Vc.v_iStr ?_
  | with_reducible refine Vc.v_inS ?_
  | with_reducible refine Vc.v_notInS ?_)
local macro_rules | `(tactic| walk_at "v") => `(tactic| repeat walk_at "v1")
local macro_rules | `(tactic| walk_at "sz") => `(tactic| (simp only [List.length_cons, List.length_nil, List.length_append, List.length_map, List.length_set, Vc.szE]; first | decide | omega))
local macro_rules | `(tactic| walk_at "n1") => `(tactic| first
  | with_reducible refine Vc.v_seq ?_
  | with_reducible refine Vc.v_ret ?_
  | with_reducible refine Vc.v_retN ?_
  | with_reducible refine Vc.v_drop ?_
  | with_reducible refine Vc.v_next ?_
  | with_reducible refine Vc.v_asg ?_
  | with_reducible refine Vc.v_ifS ?_
  | ((with_reducible refine' Vc.v_name ?vv ?_); (case vv => ((conv => lhs; simp only [List.set_cons_succ, List.set_cons_zero]); first | done | exact rfl)))
  | ((with_reducible refine' Vc.v_var ?vv ?_); (case vv => exact rfl))
  | with_reducible refine Vc.v_c ?_
  | with_reducible refine Vc.v_op ?_
  | with_reducible refine Vc.v_un ?_
  | with_reducible refine Vc.v_chain ?_
  | with_reducible refine Vc.v_test ?_
  | with_reducible refine Vc.v_B ?_
  | with_reducible refine Vc.v_not ?_
  | with_reducible refine Vc.v_notV ?_
  | with_reducible refine Vc.v_if ?_
  | with_reducible refine Vc.v_bl ?_
  | with_reducible refine Vc.v_blP ?_
  | with_reducible refine Vc.v_cb ?_
  | with_reducible refine Vc.v_call ?_
  | with_reducible refine Vc.v_nil ?_
  | with_reducible refine Vc.v_cons ?_
  | with_reducible refine Vc.v_lst ?_
  | with_reducible refine Vc.v_tup ?_
  | with_reducible refine Vc.v_m0 ?_
  | with_reducible refine Vc.v_m1 ?_
  | with_reducible refine Vc.v_strAnd ?_
  | with_reducible refine Vc.v_sl ?_
  | with_reducible refine Vc.v_noPart ?_
  | with_reducible refine Vc.v_part ?_
  | with_reducible refine Vc.v_int ?_
  | with_reducible refine Vc.v_I0 ?_
  | with_reducible refine Vc.v_U ?_
  | with_reducible refine Vc.v_addI ?_
  | with_reducible refine Vc.v_leU ?_
  | with_reducible refine Vc.v_geU ?_
  | with_reducible refine Vc.v_gtU ?_
  | with_reducible refine Vc.v_ltU ?_
  | with_reducible refine Vc.v_ltS ?_
  | with_reducible refine Vc.v_max2 ?_
  | with_reducible refine Vc.v_min2 ?_
  | with_reducible refine Vc.v_reprB ?_
  | with_reducible refine Vc.v_intI ?_
  | with_reducible refine Vc.v_intB ?_
  | with_reducible refine Vc.v_strS ?_
  | with_reducible refine Vc.v_par ?_
  | ((with_reducible refine' Vc.v_twoS ?vv ?_); (case vv => ((conv => lhs; simp only [List.set_cons_succ, List.set_cons_zero]); first | done | exact rfl)))
  | with_reducible refine Vc.v_iteT ?_
  | with_reducible refine Vc.v_iteF ?_
  | with_reducible refine Vc.v_iteFt ?_
  | with_reducible refine Vc.v_iteTf ?_
  | with_reducible refine Vc.v_for ?_
  | with_reducible refine Vc.v_yes ?_
  | with_reducible refine Vc.v_sm0 ?_
  | with_reducible refine Vc.v_callKn ?_
  | with_reducible refine Vc.v_gSub ?_
  | with_reducible refine Vc.v_disp ?_
  | with_reducible refine Vc.v_pnil ?_
  | with_reducible refine Vc.v_pcons ?_
  | with_reducible refine Vc.v_lc ?_
  | with_reducible refine Vc.v_iList ?_
  | with_reducible refine Vc.v_iRng1 ?_
  | with_reducible refine Vc.v_iRng2 ?_
  | with_reducible refine Vc.v_iStr ?_
  | with_reducible refine Vc.v_inS ?_
  | with_reducible refine Vc.v_notInS ?_)
local macro_rules | `(tactic| walk_at "w1") => `(tactic| first
  | with_reducible refine Ow.w_call ?_
  | with_reducible refine Ow.w_make ?_
  | with_reducible refine Ow.w_meth ?_
  | with_reducible refine Ow.w_neg ?_
  | with_reducible refine Ow.w_bin ?_
  | with_reducible refine Ow.w_makeK ?_
  | with_reducible refine Ow.w_cmeth ?_
  | with_reducible refine Ow.w_cmethK ?_
  | with_reducible refine Ow.w_prop ?_
  | with_reducible refine Ow.w_fld ?_
  | with_reducible refine Ow.w_sfld ?_
  | with_reducible refine Ow.w_xf ?_
  | with_reducible refine Ow.w_raise ?_
  | with_reducible refine Ow.w_try ?_
  | ((with_reducible refine' Ow.w_gone ?vv ?_); (case vv => ((conv => lhs; simp only [List.set_cons_succ, List.set_cons_zero]); first | done | exact rfl)))
  | with_reducible refine Ow.w_and ?_)
local macro_rules | `(tactic| walk_at "w") => `(tactic| repeat (first | walk_at "v1" | walk_at "w1"))
local macro_rules | `(tactic| walk_at "n") => `(tactic| repeat (first | walk_at "n1" | walk_at "w1"))
local macro_rules | `(tactic| walk_at "x1") => `(tactic| first
  | with_reducible refine Xf.x_joinF ?_
  | with_reducible refine Xf.x_js ?_
  | with_reducible refine Xf.x_js0 ?_
  | with_reducible refine Xf.x_fmt ?_
  | with_reducible refine Xf.x_isN ?_
  | with_reducible refine Xf.x_notN ?_
  | with_reducible refine Xf.x_inT ?_
  | with_reducible refine Xf.x_notInT ?_
  | with_reducible refine Xf.x_match ?_)
local macro_rules | `(tactic| walk_at "x") => `(tactic| repeat (first | walk_at "v1" | walk_at "w1" | walk_at "x1"))
local macro_rules | `(tactic| walk_at "y") => `(tactic| repeat (first | walk_at "n1" | walk_at "w1" | walk_at "x1"))

abbrev s_number_of : Stmt := topS 10
abbrev n_number_of : List Str := ["word", "digits", "number"]
theorem sc_number_of : FnScope n_number_of ["word"] (defScope s_number_of) := ⟨rfl, rfl, rfl, by decide +kernel, rfl, by decide +kernel, by decide +kernel⟩

abbrev s_ends_of : Stmt := topS 11
abbrev n_ends_of : List Str := ["text", "numbers", "only", "low", "high", "word"]
theorem sc_ends_of : FnScope n_ends_of ["text"] (defScope s_ends_of) := ⟨rfl, rfl, rfl, by decide +kernel, rfl, by decide +kernel, by decide +kernel⟩

abbrev s_Bounds___init__ : Stmt := inClass (topS 12) 0
abbrev n_Bounds___init__ : List Str := ["self", "low", "high"]
theorem sc_Bounds___init__ : FnScope n_Bounds___init__ ["self", "low", "high"] (defScope s_Bounds___init__) := ⟨rfl, rfl, rfl, by decide +kernel, rfl, by decide +kernel, by decide +kernel⟩

abbrev s_Bounds_from_text : Stmt := inClass (topS 12) 2
abbrev n_Bounds_from_text : List Str := ["cls", "text", "ends", "low", "high"]
theorem sc_Bounds_from_text : FnScope n_Bounds_from_text ["cls", "text"] (defScope s_Bounds_from_text) := ⟨rfl, rfl, rfl, by decide +kernel, rfl, by decide +kernel, by decide +kernel⟩

abbrev s_Bounds___str__ : Stmt := inClass (topS 12) 9
abbrev n_Bounds___str__ : List Str := ["self"]
theorem sc_Bounds___str__ : FnScope n_Bounds___str__ ["self"] (defScope s_Bounds___str__) := ⟨rfl, rfl, rfl, by decide +kernel, rfl, by decide +kernel, by decide +kernel⟩

abbrev s__law_written : Stmt := topS 17
abbrev n__law_written : List Str := ["_law_number_here", "_law_left", "_law_word"]
theorem sc__law_written : FnScope n__law_written ["_law_number_here"] (defScope s__law_written) := ⟨rfl, rfl, rfl, by decide +kernel, rfl, by decide +kernel, by decide +kernel⟩

abbrev s__law_number : Stmt := topS 18
abbrev n__law_number : List Str := ["_law_word", "_law_digits", "_law_number_here", "_law_sign"]
theorem sc__law_number : FnScope n__law_number ["_law_word"] (defScope s__law_number) := ⟨rfl, rfl, rfl, by decide +kernel, rfl, by decide +kernel, by decide +kernel⟩

abbrev s__law_due : Stmt := topS 19
abbrev n__law_due : List Str := ["_law_text", "_law_at", "_law_low", "_law_high"]
theorem sc__law_due : FnScope n__law_due ["_law_text"] (defScope s__law_due) := ⟨rfl, rfl, rfl, by decide +kernel, rfl, by decide +kernel, by decide +kernel⟩

abbrev s__law_read : Stmt := topS 20
abbrev n__law_read : List Str := ["_law_text", "_law_found", "e"]
theorem sc__law_read : FnScope n__law_read ["_law_text"] (defScope s__law_read) := ⟨rfl, rfl, rfl, by decide +kernel, rfl, by decide +kernel, by decide +kernel⟩

abbrev s_law : Stmt := topS 21
abbrev n_law : List Str := ["_law_script", "_law_k", "_law_box_here", "_law_ways", "_law_a", "_law_b", "_law_text", "_law_at", "_law_way", "_law_sign", "_law_odd", "_law_some", "_law_other"]
theorem sc_law : FnScope n_law ["_law_script"] (defScope s_law) := ⟨rfl, rfl, rfl, by decide +kernel, rfl, by decide +kernel, by decide +kernel⟩

/-- Bounds at a -/
structure Bd (C : Addr) (H : Hp) (a : Addr) (l h : Int) : Prop where
  ex : ∃ dx, H a = some (.ins C dx [("low", .int l), ("high", .int h)])
  lo : -1000000000000 ≤ l
  le : l ≤ h
  hi : h ≤ 1000000000000
/-- what of the class is fixed -/
structure BdK (K : PySem.W.Frag) (C : Addr) : Prop where
  cls : Cls K C
  nl : NoAttr K C "low"
  nh : NoAttr K C "high"
theorem Bd.mono {C : Addr} {H H' : Hp} {a : Addr} {l h : Int} (b : Bd C H a l h) (s : Same H H') : Bd C H' a l h := by
  obtain ⟨dx, e⟩ := b.ex
  exact ⟨⟨dx, s _ _ e⟩, b.lo, b.le, b.hi⟩
theorem Kd.mono {K : PySem.W.Frag} {H H' : Hp} {v : V} {t : String} (k : Kd K H v t) (s : Same H H') : Kd K H' v t := by
  cases k with
  | non => exact .non
  | bl b => exact .bl b
  | int i => exact .int i
  | str z h => exact .str z h
  | lst e => exact .lst (s _ _ e)
  | tup e => exact .tup (s _ _ e)
  | dK e => exact .dK (s _ _ e)
theorem isHt_int {v : V} (h : isHt v = true) : ∃ i, v = .int i ∧ -1000000000000 ≤ i ∧ i ≤ 1000000000000 := by
  cases v with
  | int i => exact ⟨i, rfl, of_decide_eq_true h⟩
  | _ => cases h
/-- how a making of Bounds may end -/
structure BEnds (CH CI : Addr) (u v : V) (H : Hp) (E : XK) (T : Int → Int → Prop) : Prop where
  e1 : isHt u = false → ∀ d H', Same H H' → H' d = some (.xd [("value", u)]) → E (.ref CH) (some d) H'
  e2 : isHt u = true → isHt v = false → ∀ d H', Same H H' → H' d = some (.xd [("value", v)]) → E (.ref CH) (some d) H'
  e3 : ∀ l h, u = .int l → v = .int h → isHt u = true → isHt v = true → h < l → ∀ d H', Same H H' → H' d = some (.xd [("high", v), ("low", u)]) → E (.ref CI) (some d) H'
  ok : ∀ l h, u = .int l → v = .int h → -1000000000000 ≤ l → l ≤ h → h ≤ 1000000000000 → T l h
def sp_binit (K : PySem.W.Frag) (C CH CI : Addr) : Sp := fun vs H Q E => ∃ x dx u v tu tv, vs = [.ref x, u, v] ∧ H x = some (.ins C dx []) ∧ Kd K H u tu ∧ Kd K H v tv ∧
  BEnds CH CI u v H E fun l h => Q .non (upd H x (.ins C dx [("low", .int l), ("high", .int h)]))
theorem e_mkB {K : PySem.W.Frag} {C CH CI : Addr} {u v : V} {tu tv : String} {H : Hp} {E : XK} {Q : VK} (ku : Kd K H u tu) (kv : Kd K H v tv) (h : BEnds CH CI u v H E fun l h => ∀ x H', Same H H' → Bd C H' x l h → Q (.ref x) H') : Ow.MakeK C (sp_binit K C CH CI) E Q [u, v] H := by
  intro x dx hx hdx hne
  have s : Same H (upd (upd H dx (.own x)) x (.ins C dx [])) := fun b o e => by
    rw [upd_ne (ne_of_none e hx), upd_ne (ne_of_none e hdx)]
    exact e
  refine ⟨x, dx, u, v, tu, tv, rfl, upd_same, ku.mono s, kv.mono s, fun a d H' s' e => h.e1 a d H' (s.trans s') e, fun a b d H' s' e => h.e2 a b d H' (s.trans s') e, fun l h' a b c e f d H' s' g => h.e3 l h' a b c e f d H' (s.trans s') g, fun l h' a b c e f => ⟨rfl, h.ok l h' a b c e f x _ (fun b o e => ?_) ⟨⟨dx, upd_same⟩, c, e, f⟩⟩⟩
  rw [upd_upd, upd_ne (ne_of_none e hx), upd_ne (ne_of_none e hdx)]
  exact e
theorem e_mkB1 {K : PySem.W.Frag} {C CH CI : Addr} {l h : Int} {H : Hp} {E : XK} {Q : VK} (c1 : -1000000000000 ≤ l) (c2 : l ≤ h) (c3 : h ≤ 1000000000000) (k : ∀ x H', Same H H' → Bd C H' x l h → Q (.ref x) H') : Ow.MakeK C (sp_binit K C CH CI) E Q [.int l, .int h] H :=
  e_mkB (.int l) (.int h) ⟨fun e => absurd (of_decide_eq_false e) (by omega), fun _ e => absurd (of_decide_eq_false e) (by omega), fun l' h' e1 e2 _ _ e3 => by cases e1; cases e2; omega, fun l' h' e1 e2 _ _ _ => by cases e1; cases e2; exact k⟩
section
variable {P : Program} {w : World} {K : PySem.W.Frag} {mg : Str → Option Value} {base : Heap} {mt : Tok} {CB CH CI CC : Addr}
theorem ok_binit {f : Addr} {fd : FuncData} (F : Fun K "__init__" "Bounds.__init__" s_Bounds___init__ f fd) (B : Bt mg mt CB) (T : BdK K CB) (G_is_height : Vc.FnG P w K mg base CX0 1 "is_height" ["value"] (sp_is_height K))
    (X_InvalidHeight : Xs.ExT P w K mg base "InvalidHeight" CH ["value"]) (X_InvalidBounds : Xs.ExT P w K mg base "InvalidBounds" CI ["low", "high"]) : FnOk P w K mg base (Ow.Cxx P w) 3 f fd ["self", "low", "high"] (sp_binit K CB CH CI) := by
  refine F.okX sc_Bounds___init__ (fun vs H Q E h => ?_) (fun cdv A outer s H vs Q E hr h => ?_)
  · obtain ⟨x, dx, u, v, tu, tv, rfl, _⟩ := h
    rfl
  · obtain ⟨x, dx, u, v, tu, tv, rfl, hx, ku, kv, k⟩ := h
    refine ⟨_, (pss_cons (ps_if (pt_not (pt_val (Vc.pe_callG G_is_height hr (by decide) rfl pass0 (pa_cons (pv 1) pa_nil)))) (pss_one (Xs.ps_raiseX X_InvalidHeight hr (by decide) rfl (takes_of rfl rfl rfl rfl) rfl (pa_cons (pv 1) pa_nil))) pss_nil)
      (pss_cons (ps_if (pt_not (pt_val (Vc.pe_callG G_is_height hr (by decide) rfl pass0 (pa_cons (pv 2) pa_nil)))) (pss_one (Xs.ps_raiseX X_InvalidHeight hr (by decide) rfl (takes_of rfl rfl rfl rfl) rfl (pa_cons (pv 2) pa_nil))) pss_nil)
      (pss_cons (ps_if (pt_cmpR Vc.op_gtU (pv 1) (pv 2) (nomark _)) (pss_one (Xs.ps_raiseX X_InvalidBounds hr (by decide) rfl (takes_of rfl rfl rfl rfl) rfl (pa_cons (pv 1) (pa_cons (pv 2) pa_nil)))) pss_nil)
      (pss_cons (Ow.ps_fldK K (pv 0) (pv 1) rfl)
      (pss_one (Ow.ps_fldK K (pv 0) (pv 2) rfl)))))), ?_⟩
    refine Vc.v_start (σ' := [some (.ref x), some u, some v]) rfl ?_
    walk_at "w"
    refine ⟨u, tu, rfl, ku, ?_⟩
    walk_at "w"
    refine Vc.v_iteB (fun h1 => ?_) (fun h1 => ?_)
    · walk_at "w"
      refine Xs.e_raise rfl (by decide) fun d hd => ?_
      exact k.e1 (by simpa using h1) d _ (fun b o e => Vc.h_new hd e) upd_same
    walk_at "w"
    refine ⟨v, tv, rfl, kv, ?_⟩
    walk_at "w"
    refine Vc.v_iteB (fun h2 => ?_) (fun h2 => ?_)
    · walk_at "w"
      refine Xs.e_raise rfl (by decide) fun d hd => ?_
      exact k.e2 (by simpa using h1) (by simpa using h2) d _ (fun b o e => Vc.h_new hd e) upd_same
    obtain ⟨i, rfl, hi0, hi1⟩ := isHt_int (v := u) (by simpa using h1)
    obtain ⟨j, rfl, hj0, hj1⟩ := isHt_int (v := v) (by simpa using h2)
    walk_at "w"
    refine Vc.v_iteD (fun h3 => ?_) (fun h3 => ?_)
    · walk_at "w"
      refine Xs.e_raise rfl (by decide) fun d hd => ?_
      exact k.e3 i j rfl rfl (by simpa using h1) (by simpa using h2) h3 d _ (fun b o e => Vc.h_new hd e) upd_same
    walk_at "w"
    refine ⟨x, CB, dx, _, rfl, hx, T.cls, T.nl, by decide, ?_⟩
    walk_at "w"
    refine ⟨x, CB, dx, _, rfl, upd_same, T.cls, T.nh, (by show 1 < 1000; decide), ?_⟩
    rw [upd_upd]
    exact k.ok i j rfl rfl hi0 (by omega) hj1
end

theorem neSame {K : PySem.W.Frag} {H : Hp} {x y : V} {d : PyData} {Q : VK} (h1 : Dp K H x d) (h2 : Dp K H y d) (s : SeqAt.shaped d = true) (e : PyData.eqv d d = true) (q : Q (.bl false) H) : Vc.rNeU K x y H Q := Vc.v_neD h1 h2 s s (by rw [e]; exact q)
theorem eqSame {K : PySem.W.Frag} {H : Hp} {x y : V} {d : PyData} {Q : VK} (h1 : Dp K H x d) (h2 : Dp K H y d) (s : SeqAt.shaped d = true) (e : PyData.eqv d d = true) (q : Q (.bl true) H) : Vc.rEqU K x y H Q := Vc.v_eqD h1 h2 s s (by rw [e]; exact q)
theorem sameT {K : PySem.W.Frag} {H H' : Hp} {a : Addr} {xs : List V} (e : Same H H') (h : SqT K H a xs) : SqT K H' a xs := by
  rcases h with (h | ⟨o, h⟩) | h
  · exact .inl (.inl (e _ _ h))
  · exact .inl (.inr ⟨o, e _ _ h⟩)
  · exact .inr h
mutual
theorem dp_mono {K : PySem.W.Frag} {H H' : Hp} (s : Same H H') : ∀ {v : V} {d : PyData}, Dp K H v d → Dp K H' v d
  | _, _, .non => .non
  | _, _, .bl b => .bl b
  | _, _, .int i => .int i
  | _, _, .str x => .str x
  | _, _, .lst a b => .lst (s.seq a) (dpAll_mono s b)
  | _, _, .tup a b => .tup (sameT s a) (dpAll_mono s b)
theorem dpAll_mono {K : PySem.W.Frag} {H H' : Hp} (s : Same H H') : ∀ {v : List V} {d : List PyData}, DpAll K H v d → DpAll K H' v d
  | _, _, .nil => .nil
  | _, _, .cons a b => .cons (dp_mono s a) (dpAll_mono s b)
end
theorem dp_ints {K : PySem.W.Frag} {H : Hp} : ∀ {xs : List Int}, DpAll K H (xs.map V.int) (xs.map PyData.int)
  | [] => .nil
  | x :: xs => .cons (.int x) dp_ints
theorem eqvAll_ints : ∀ xs ys : List Int, PyData.eqvAll (xs.map PyData.int) (ys.map PyData.int) = decide (xs = ys)
  | [], [] => rfl
  | [], y :: ys => rfl
  | x :: xs, [] => rfl
  | x :: xs, y :: ys => by
    rw [List.map_cons, List.map_cons]
    show ((x == y) && PyData.eqvAll (xs.map PyData.int) (ys.map PyData.int)) = _
    rw [eqvAll_ints xs ys, Bool.eq_iff_iff]
    simp
/-- two laid lists of the same ints -/
theorem neInts {K : PySem.W.Frag} {H : Hp} {p q : Addr} {Q : VK} {xs ys : List V} (zs : List Int) (h1 : SqL K H p xs) (h2 : SqL K H q ys) (e1 : xs = zs.map V.int) (e2 : ys = zs.map V.int) (hs : SeqAt.shaped (.list (zs.map PyData.int)) = true) (k : Q (.bl false) H) : Vc.rNeU K (.ref p) (.ref q) H Q := by
  subst e1 e2
  exact neSame (.lst h1 dp_ints) (.lst h2 dp_ints) hs (by show PyData.eqvAll _ _ = true; rw [eqvAll_ints, decide_eq_true rfl]) k
theorem same_new {H : Hp} {p : Addr} {o : HO} (h : H p = none) : Same H (upd H p o) := fun _ _ e => Vc.h_new h e
theorem BoxAt.mono {H H' : Hp} {b : Addr} {n : Nat} (k : BoxAt H b n) (s : Same H H') : BoxAt H' b n := by
  obtain ⟨g, r, c, e, q⟩ := k.ex
  exact ⟨g, r, c, s _ _ e, q⟩
theorem BoxAt.ne {H : Hp} {b a : Addr} {n : Nat} (k : BoxAt H b n) (h : H a = none) : a ≠ b := by
  obtain ⟨g, r, c, e, _⟩ := k.ex
  exact (ne_of_none e h).symm
/-- a and b, where neither changes a thing -/
theorem v_andP {p q : Prop} [Decidable p] [Decidable q] {ta tb : TE} {σ : L2.St} {H : Hp} {Q : VK} (ha : ∀ Q : VK, Q (.bl (decide p)) H → ta σ H Q) (hb : ∀ Q : VK, Q (.bl (decide q)) H → tb σ H Q) (h : Q (.bl (decide (p ∧ q))) H) : tAndV ta tb σ H Q := by
  refine ha _ ⟨_, rfl, ?_⟩
  refine Vc.v_iteD (fun h1 => ?_) (fun h1 => ?_)
  · refine hb _ ?_
    have e : decide q = decide (p ∧ q) := by
      rw [decide_eq_decide]
      exact ⟨fun z => ⟨h1, z⟩, fun z => z.2⟩
    rw [e]
    exact h
  · rw [decide_eq_false (fun z => h1 z.1)] at h
    exact h
theorem neStr {K : PySem.W.Frag} {H : Hp} {x : Str} {Q : VK} (k : Q (.bl false) H) : Vc.rNeU K (.str x) (.str x) H Q := Vc.v_neU rfl (by rw [decide_eq_true rfl]; exact k)
theorem eqT2 {K : PySem.W.Frag} {H : Hp} {p q : Addr} {a b c d : Int} {Q : VK} (h1 : H p = some (.tup [.int a, .int b])) (h2 : H q = some (.tup [.int c, .int d])) (k : Q (.bl (decide (a = c ∧ b = d))) H) : Vc.rEqU K (.ref p) (.ref q) H Q := by
  refine Vc.v_eqD (.tup (SqT.of h1) (.cons (.int a) (.cons (.int b) .nil))) (.tup (SqT.of h2) (.cons (.int c) (.cons (.int d) .nil))) rfl rfl ?_
  have e : PyData.eqv (.tuple [.int a, .int b]) (.tuple [.int c, .int d]) = decide (a = c ∧ b = d) := by
    show ((a == c) && ((b == d) && true)) = _
    rw [Bool.eq_iff_iff]
    simp
  rw [e]
  exact k

def sp_ends_of (K : PySem.W.Frag) : Sp := fun vs H Q _ => ∃ v t, vs = [v] ∧ Kd K H v t ∧ (∀ z, v = .str z → z.length ≤ 100000 ∧ (endsP (TL.tl z) = none → ∀ H', Same H H' → Q .non H') ∧ ∀ a b, endsP (TL.tl z) = some (a, b) → ∀ p H', Same H H' → H' p = some (.tup [.int a, .int b]) → Q (.ref p) H') ∧ (vS v = false → Q .non H)
def sp_from_text (K : PySem.W.Frag) (C CT : Addr) : Sp := fun vs H Q E => ∃ v t, vs = [.ref C, v] ∧ Kd K H v t ∧ (∀ z, v = .str z → z.length ≤ 100000 ∧ ∀ a b, endsP (TL.tl z) = some (a, b) → ∀ x H', Same H H' → Bd C H' x a b → Q (.ref x) H') ∧
  ((∀ z, v = .str z → endsP (TL.tl z) = none) → ∀ d H', Same H H' → H' d = some (.xd [("value", v)]) → E (.ref CT) (some d) H')
def txt (l h : Int) : List Nat := if l = h then Nu.wrI l else Nu.wrI l ++ dots ++ Nu.wrI h
def sp_bstr (C : Addr) : Sp := fun vs H Q _ => ∃ a l h, vs = [.ref a] ∧ Bd C H a l h ∧ Q (.str (SX.S (txt l h))) H
def sp_written : Sp := fun vs H Q _ => ∃ n : Int, vs = [.int n] ∧ -10000000000000 < n ∧ n < 10000000000000 ∧ Q (.str (SX.S (Nu.wrI n))) H
section
variable {P : Program} {w : World} {K : PySem.W.Frag} {mg : Str → Option Value} {base : Heap} {mt : Tok} {CB CH CI CT : Addr}
theorem at0 (c : Nat) (r : List Nat) : atI (c :: r) 0 = some c := by
  unfold atI ixN
  rw [if_pos (by decide), if_pos (by rw [List.length_cons]; omega)]
  rfl
theorem int_read {L : List Nat} (h0 : Nu.dg L ≠ []) (ha : Nu.AllD (Nu.dg L)) (hl : L.length ≤ 640) : intText? (SX.S L) = some (Nu.sgv L) := by
  unfold Nu.sgv
  cases hn : Nu.neg L with
  | true =>
    rw [if_pos rfl]
    have hd : Nu.dg L = L.tail := by
      unfold Nu.dg
      rw [hn, if_pos rfl]
    obtain ⟨D, rfl⟩ : ∃ D, L = 45 :: D := by
      cases L with
      | nil => cases hn
      | cons a r =>
        have h1 : (some a == some 45) = true := hn
        rw [beq_iff_eq] at h1
        exact ⟨r, by rw [Option.some.inj h1]⟩
    rw [hd] at h0 ha ⊢
    exact PySem.intText_neg rfl ha h0 (by rw [SX.S_len]; omega)
  | false =>
    rw [if_neg (by decide)]
    have hd : Nu.dg L = L := by
      unfold Nu.dg
      rw [hn]
      exact if_neg (by decide)
    rw [hd] at h0 ha ⊢
    exact PySem.intText_digits ha h0 (by rw [SX.S_len]; omega)
theorem ok_number_of {f : Addr} {fd : FuncData} (F : Fun K "number_of" "number_of" s_number_of f fd) (B : Bt mg mt CB) (G_is_height : Vc.FnG P w K mg base CX0 1 "is_height" ["value"] (sp_is_height K)) : FnOk P w K mg base CX0 2 f fd ["word"] sp_number_of := by
  refine F.ok sc_number_of (fun vs H Q E h => ?_) (fun cdv A outer s H vs Q E hr h => ?_)
  · obtain ⟨z, rfl, _⟩ := h
    rfl
  · obtain ⟨z, rfl, hz, k⟩ := h
    have hsz : z.length ≤ sizeLine := Nat.le_trans hz (by decide)
    refine ⟨_, (pss_cons (ps_set (i := 1) sc_number_of.nd rfl (Or.inl rfl) (pe_m1 PySem.F.slot_str_removeprefix PySem.F.type_str_removeprefix mt_removeprefix (pv 0) pe_str))
      (pss_cons (ps_if (PW.pt (pw_or (pt_not (pt_val (pe_m0 PySem.F.slot_str_isascii PySem.F.type_str_isascii mt_isascii (pv 1)))) (pw_or (pt_not (pt_val (pe_m0 PySem.F.slot_str_isdigit PySem.F.type_str_isdigit mt_isdigit (pv 1)))) (pw_or1 (pt_cmpR Vc.op_gtU (pe_callB (Vc.call_lenU K) (by rfl) B.b_len (by decide +kernel) (pa_cons (pv 1) pa_nil)) pe_int (nomark _)))))) (pss_one (ps_ret pe_non)) pss_nil)
      (pss_cons (ps_if (PW.pt (pw_and (pt_cmpR (Vc.op_eqU K hr) (pe_ix (Vc.ix_U K) (pv 1) pe_int (fun _ _ => rfl)) pe_str (nomark _)) (pw_and1 (pt_cmpR (Vc.op_neU K hr) (pv 0) pe_str (nomark _))))) (pss_one (ps_ret pe_non)) pss_nil)
      (pss_cons (ps_set (i := 2) sc_number_of.nd rfl (Or.inl rfl) (pe_callTy Vc.call_intU (by rfl) B.b_int (by decide +kernel) (pa_cons (pv 0) pa_nil)))
      (pss_one (ps_ret (pe_ifExp (pt_val (Vc.pe_callG G_is_height hr (by decide) rfl pass0 (pa_cons (pv 2) pa_nil))) (pv 2) pe_non))))))), ?_⟩
    refine Vc.v_start (σ' := [some (.str z), none, none]) rfl ?_
    walk_at "x"
    refine ⟨z, "-", rfl, rfl, hsz, ?_⟩
    generalize hD : Txt.removeprefix z "-" = y
    have ed : TL.tl y = Nu.dg (TL.tl z) := by rw [← hD]; exact dg_pre z
    have hly : y.length ≤ z.length := by rw [← hD]; exact PyProof.Rows.len_removeprefix z _
    have hys : y.length ≤ sizeLine := Nat.le_trans hly hsz
    walk_at "x"
    have no : Nu.numP (TL.tl z) = none → Q .non H := fun e => by rw [e] at k; exact k
    refine Vc.v_iteB (fun h1 => ?_) (fun h1 => ?_)
    · walk_at "x"
      refine no ?_
      unfold Nu.numP
      refine if_neg ?_
      rintro ⟨g1, g2, _⟩
      have g3 := isd_iff y
      rw [ed, decide_eq_true ⟨g1, g2⟩, Bool.and_eq_true] at g3
      rw [g3.1] at h1
      exact absurd h1 (by decide)
    walk_at "x"
    refine Vc.v_iteB (fun h2 => ?_) (fun h2 => ?_)
    · walk_at "x"
      refine no ?_
      unfold Nu.numP
      refine if_neg ?_
      rintro ⟨g1, g2, _⟩
      have g3 := isd_iff y
      rw [ed, decide_eq_true ⟨g1, g2⟩, Bool.and_eq_true] at g3
      rw [g3.2] at h2
      exact absurd h2 (by decide)
    have hdig : Nu.dg (TL.tl z) ≠ [] ∧ (Nu.dg (TL.tl z)).all (fun c => decide (48 ≤ c) && decide (c ≤ 57)) = true := by
      have g3 := isd_iff y
      rw [ed] at g3
      have a1 : Txt.isascii y = true := by simpa using h1
      have a2 : Txt.isdigit y = true := by simpa using h2
      rw [a1, a2] at g3
      exact of_decide_eq_true g3.symm
    walk_at "x"
    refine Vc.v_lenS hys ?_
    walk_at "x"
    refine Vc.v_iteD (fun h3 => ?_) (fun h3 => ?_)
    · walk_at "x"
      refine no ?_
      unfold Nu.numP
      refine if_neg ?_
      rintro ⟨_, _, g3, _⟩
      rw [← ed, ← TL.len_tl] at g3
      omega
    have hl13 : (Nu.dg (TL.tl z)).length ≤ 13 := by
      rw [← ed, ← TL.len_tl]
      omega
    obtain ⟨c, r, ecr⟩ : ∃ c r, TL.tl y = c :: r := by
      cases e : TL.tl y with
      | nil => exact absurd (ed.symm.trans e) hdig.1
      | cons c r => exact ⟨c, r, rfl⟩
    walk_at "x"
    refine Vc.v_ixS hys (c := c) (by show atI (TL.tl y) 0 = some c; rw [ecr]; exact at0 c r) ?_
    refine Vc.v_eqU rfl ?_
    walk_at "x"
    have tail : (¬ ((Nu.dg (TL.tl z)).head? = some 48 ∧ TL.tl z ≠ [48])) → tSeq (tAsg (tCB Vc.rIntU (tCons (tVar 0) tNil)) (gName 2)) (tRet (tIf (tB (tCall (sp_is_height K) [] E0 (tCons (tVar 2) tNil))) (tVar 2) (tC V.non))) { nx := fun x H' => Q V.non H', rt := Q } [some (.str z), some (.str y), none] H := fun hc => by
      have hlz : z.length ≤ 14 := by
        rw [TL.len_tl]
        have : (TL.tl z).length ≤ (Nu.dg (TL.tl z)).length + 1 := by
          unfold Nu.dg
          split
          · rw [List.length_tail]
            omega
          · omega
        omega
      have hrd := int_read (L := TL.tl z) hdig.1 (Nu.alld.mp hdig.2) (by rw [← TL.len_tl]; omega)
      rw [SX.S_tl] at hrd
      walk_at "x"
      refine .inr ⟨z, _, rfl, hrd, by omega, ?_⟩
      walk_at "x"
      refine ⟨_, _, rfl, .int _, ?_⟩
      walk_at "x"
      have e : isHt (.int (Nu.sgv (TL.tl z))) = decide (-1000000000000 ≤ Nu.sgv (TL.tl z) ∧ Nu.sgv (TL.tl z) ≤ 1000000000000) := rfl
      rw [e]
      refine Vc.v_iteD (fun h5 => ?_) (fun h5 => ?_)
      · walk_at "x"
        have e2 : Nu.numP (TL.tl z) = some (Nu.sgv (TL.tl z)) := if_pos ⟨hdig.1, hdig.2, hl13, hc, h5.1, h5.2⟩
        rw [e2] at k
        exact k
      · walk_at "x"
        refine no (if_neg ?_)
        rintro ⟨_, _, _, _, g1, g2⟩
        exact h5 ⟨g1, g2⟩
    have hhd : (Nu.dg (TL.tl z)).head? = some c := by rw [← ed, ecr]; rfl
    refine Vc.v_iteD (fun h4 => ?_) (fun h4 => ?_)
    · have hc48 : c = 48 := by
        have e := V.str.inj h4
        have e2 := congrArg TL.tl e
        have e3 : TL.tl ("0" : Str) = [48] := by decide +kernel
        rw [e3] at e2
        exact (List.cons.inj e2).1
      walk_at "x"
      refine Vc.v_neU rfl ?_
      walk_at "x"
      have e3 : TL.tl ("0" : Str) = [48] := by decide +kernel
      refine Vc.v_iteN (fun h5 => ?_) (fun h5 => ?_)
      · walk_at "x"
        refine no (if_neg ?_)
        rintro ⟨_, _, _, g, _⟩
        refine g ⟨by rw [hhd, hc48], fun e => h5 ?_⟩
        rw [TL.ext_tl (e.trans e3.symm)]
      · refine tail fun g => g.2 ?_
        rw [V.str.inj h5]
        exact e3
    · refine tail fun g => h4 ?_
      have e : c = 48 := Option.some.inj (hhd.symm.trans g.1)
      rw [e]
      decide +kernel
theorem dig_at {d : Int} (h0 : 0 ≤ d) (h1 : d < 10) : atI ("0123456789" : Str).cps.toList d = some (48 + d.toNat) := by
  have h : ∀ n : Nat, n < 10 → atI ("0123456789" : Str).cps.toList (n : Int) = some (48 + n) := by decide +kernel
  have e : d = (d.toNat : Int) := by omega
  rw [e]
  exact h d.toNat (by omega)
theorem tt_start {tt : TT} {σ σ' : L2.St} {H : Hp} {QB : Bool → Hp → Prop} (e : σ = σ') (h : tt σ' H QB) : tt σ H QB := by
  subst e
  exact h
theorem gc_cons {g : TG} {r : TGs} {x : V} {xs : List V} {σ : L2.St} {H : Hp} {Qs : L2.St → Hp → Prop} (h : g x σ H fun σ1 H1 => r xs σ1 H1 Qs) : gCons g r (x :: xs) σ H Qs := ⟨x, xs, rfl, h⟩
theorem gc_nil {σ : L2.St} {H : Hp} {Qs : L2.St → Hp → Prop} (h : Qs σ H) : gNil [] σ H Qs := ⟨rfl, h⟩
theorem mc_hit {a : Addr} {xs : List V} {is : List Nat} {bd : TS} {r : List Mt.Mc} {D : Ends} {σ : L2.St} {H : Hp} (h : xs.length = is.length) (q : bd D (Mt.setAll is xs σ) H) : Mt.mCases K a xs (⟨is, none, bd⟩ :: r) D σ H := by
  unfold Mt.mCases
  rw [if_pos h]
  exact q
theorem mc_hitG {a : Addr} {xs : List V} {is : List Nat} {g : TT} {bd : TS} {r : List Mt.Mc} {D : Ends} {σ : L2.St} {H : Hp} (h : xs.length = is.length)
    (q : g (Mt.setAll is xs σ) H fun b H1 => if b = true then bd D (Mt.setAll is xs σ) H1 else SqL K H1 a xs ∧ Mt.mCases K a xs r D (Mt.setAll is xs σ) H1) : Mt.mCases K a xs (⟨is, some g, bd⟩ :: r) D σ H := by
  unfold Mt.mCases
  rw [if_pos h]
  exact q
theorem mc_miss {a : Addr} {xs : List V} {c : Mt.Mc} {r : List Mt.Mc} {D : Ends} {σ : L2.St} {H : Hp} (h : xs.length ≠ c.is.length) (q : Mt.mCases K a xs r D σ H) : Mt.mCases K a xs (c :: r) D σ H := by
  unfold Mt.mCases
  rw [if_neg h]
  exact q
theorem mc_end {a : Addr} {xs : List V} {D : Ends} {σ : L2.St} {H : Hp} (q : D.nx σ H) : Mt.mCases K a xs [] D σ H := q
theorem spl_len (S : List Nat) : ∀ (l : List Nat) (k : Nat) (acc : List Nat), ∀ p ∈ TL.spl S k acc l, p.length ≤ acc.length + l.length
  | [], k, acc, p, hp => by
    rw [TL.spl_nil, List.mem_singleton] at hp
    rw [hp]
    omega
  | c :: r, 0, acc, p, hp => by
    cases hq : TL.pre S (c :: r) with
    | true =>
      rw [TL.spl_hit hq] at hp
      rcases List.mem_cons.mp hp with h | h
      · rw [h]
        omega
      · have := spl_len S r (S.length - 1) [] p h
        rw [List.length_cons]
        simp at this
        omega
    | false =>
      rw [TL.spl_miss hq] at hp
      have := spl_len S r 0 (acc ++ [c]) p hp
      rw [List.length_append] at this
      rw [List.length_cons]
      simp at this
      omega
  | c :: r, k + 1, acc, p, hp => by
    have := spl_len S r k acc p hp
    rw [List.length_cons]
    omega
theorem spl_count (S : List Nat) : ∀ (l : List Nat) (k : Nat) (acc : List Nat), (TL.spl S k acc l).length ≤ l.length + 1
  | [], k, acc => by
    rw [TL.spl_nil]
    exact Nat.le_refl _
  | c :: r, 0, acc => by
    cases hq : TL.pre S (c :: r) with
    | true =>
      rw [TL.spl_hit hq, List.length_cons, List.length_cons]
      have := spl_count S r (S.length - 1) []
      omega
    | false =>
      rw [TL.spl_miss hq, List.length_cons]
      have := spl_count S r 0 (acc ++ [c])
      omega
  | c :: r, k + 1, acc => by
    have := spl_count S r k acc
    rw [List.length_cons]
    show (TL.spl S k acc r).length ≤ _
    omega
theorem ok_written {f : Addr} {fd : FuncData} (F : Fun K "_law_written" "_law_written" s__law_written f fd) (B : Bt mg mt CB) : FnOk P w K mg base CX0 1 f fd ["_law_number_here"] sp_written := by
  refine F.ok sc__law_written (fun vs H Q E h => ?_) (fun cdv A outer s H vs Q E hr h => ?_)
  · obtain ⟨z, rfl, _⟩ := h
    rfl
  · obtain ⟨n, rfl, hn0, hn1, k⟩ := h
    refine ⟨_, (pss_cons (ps_par (i := 1) (j := 2) (by rfl) sc__law_written.nd rfl rfl (by decide) rfl rfl (pa_cons (pe_callB call_abs (by rfl) B.b_abs (by decide +kernel) (pa_cons (pv 0) pa_nil)) (pa_cons pe_str pa_nil)) (by rfl))
      (pss_cons (ps_while PassesOwn.never (pt_cmpR Vc.op_geU (pv 1) pe_int (nomark _))
      (pss_cons (ps_set (i := 2) sc__law_written.nd rfl (Or.inl rfl) (pe_op Vc.op_addU (pe_ix (Vc.ix_U K) pe_str (pe_op op_mod (pv 1) pe_int) (fun _ _ => rfl)) (pv 2)))
      (pss_one (ps_set (i := 1) sc__law_written.nd rfl (Or.inl rfl) (pe_op op_fdivW (pv 1) pe_int)))))
      (pss_one (ps_ret (pe_op Vc.op_addU (pe_op Vc.op_addU (pe_ifExp (pt_cmpR Vc.op_ltU (pv 0) pe_int (nomark _)) pe_str pe_str) (pe_ix (Vc.ix_U K) pe_str (pv 1) (fun _ _ => rfl))) (pv 2)))))), ?_⟩
    refine Vc.v_start (σ' := [some (.int n), none, none]) rfl ?_
    walk_at "x"
    refine ⟨n, rfl, ?_⟩
    have ea : (if n < 0 then -n else n) = (n.natAbs : Int) := by
      split <;> omega
    rw [ea]
    walk_at "x"
    have e0 : ("" : Str) = SX.S [] := by decide +kernel
    have hlen : (TL.numL n.natAbs).length ≤ 13 := TL.numL_len (by decide) (by have : n.natAbs < 10000000000000 := by omega
                                                                              exact Nat.lt_of_lt_of_le this (by decide))
    have sz : ∀ a b : List Nat, a.length ≤ 20 → b.length ≤ 20 → (SX.S a).length + (SX.S b).length ≤ sizeLine := fun a b h1 h2 => by
      rw [SX.S_len, SX.S_len, Vc.szE]
      omega
    refine ⟨fun m σ H' => H' = H ∧ ∃ (l : Nat) (w : List Nat), m = l ∧ σ = [some (.int n), some (.int (l : Int)), some (.str (SX.S w))] ∧ TL.numL n.natAbs = TL.numL l ++ w, ⟨n.natAbs, rfl, n.natAbs, [], rfl, by rw [e0], by simp⟩, ?_⟩
    rintro m σ H' ⟨rfl, l, w, hm, rfl, hnl⟩
    have hw : w.length ≤ 13 := by
      rw [hnl, List.length_append] at hlen
      omega
    walk_at "x"
    refine Vc.v_iteD (fun h1 => ?_) (fun h1 => ?_)
    · refine ⟨fun σ' H'' => H'' = H' ∧ σ' = [some (.int n), some (.int ((l / 10 : Nat) : Int)), some (.str (SX.S ((48 + l % 10) :: w)))], ?_, ?_⟩
      · rintro σ' H'' ⟨rfl, rfl⟩
        refine ⟨l / 10, by omega, rfl, l / 10, _, rfl, rfl, ?_⟩
        rw [hnl, TL.numL_step (by omega), List.append_assoc]
        rfl
      · walk_at "x"
        refine Vc.v_I (by decide) ?_
        refine Vc.v_ixS (by decide +kernel) (dig_at (d := (l : Int) % 10) (by omega) (by omega)) ?_
        walk_at "x"
        refine Vc.v_addS (sz [_] w (by simp) (by omega)) ?_
        walk_at "x"
        refine Vc.v_div (by decide) (by decide) ?_
        walk_at "x"
        refine ⟨rfl, ?_⟩
        have e1 : ((l : Int) % 10).toNat = l % 10 := by omega
        have e2 : (l : Int) / 10 = ((l / 10 : Nat) : Int) := by omega
        have e3 : (⟨#[48 + ((l : Int) % 10).toNat]⟩ : Str) ++ SX.S w = SX.S ((48 + l % 10) :: w) := by
          rw [e1]
          exact SX.S_cat [48 + l % 10] w
        rw [e3, e2]
    · have hl10 : l < 10 := by omega
      walk_at "x"
      have fin : ∀ sg : List Nat, sg.length ≤ 1 → sg ++ TL.numL n.natAbs = Nu.wrI n → Vc.rAddU (.str (SX.S sg ++ ⟨#[48 + (l : Int).toNat]⟩)) (.str (SX.S w)) H' Q := fun sg hsg e => by
        have e1 : SX.S sg ++ (⟨#[48 + (l : Int).toNat]⟩ : Str) = SX.S (sg ++ [48 + l]) := by
          have e2 : (l : Int).toNat = l := by omega
          rw [e2]
          exact SX.S_cat sg [48 + l]
        rw [e1]
        refine Vc.v_addS (sz _ _ (by rw [List.length_append]; simp; omega) (by omega)) ?_
        rw [SX.S_cat]
        have e3 : sg ++ [48 + l] ++ w = Nu.wrI n := by
          rw [← e, hnl, TL.numL_lt hl10, List.append_assoc]
        rw [e3]
        exact k
      refine Vc.v_iteD (fun h2 => ?_) (fun h2 => ?_)
      · walk_at "x"
        refine Vc.v_ixS (by decide +kernel) (dig_at (d := (l : Int)) (by omega) (by omega)) ?_
        have e4 : ("-" : Str) = SX.S [45] := by decide +kernel
        rw [e4]
        refine Vc.v_addS (sz [45] [_] (by simp) (by simp)) ?_
        walk_at "x"
        exact fin [45] (by simp) (by unfold Nu.wrI; rw [if_pos h2]; rfl)
      · walk_at "x"
        refine Vc.v_ixS (by decide +kernel) (dig_at (d := (l : Int)) (by omega) (by omega)) ?_
        rw [e0]
        refine Vc.v_addS (sz [] [_] (by simp) (by simp)) ?_
        walk_at "x"
        exact fin [] (by simp) (by unfold Nu.wrI; rw [if_neg h2]; rfl)
theorem ok_ends_of {f : Addr} {fd : FuncData} (F : Fun K "ends_of" "ends_of" s_ends_of f fd) (B : Bt mg mt CB) (G_number_of : Vc.FnG P w K mg base CX0 2 "number_of" ["word"] sp_number_of) : FnOk P w K mg base CX0 3 f fd ["text"] (sp_ends_of K) := by
  refine F.ok sc_ends_of (fun vs H Q E h => ?_) (fun cdv A outer s H vs Q E hr h => ?_)
  · obtain ⟨v, t, rfl, _⟩ := h
    rfl
  · obtain ⟨v, ty, rfl, hv, k1, k2⟩ := h
    refine ⟨_, (pss_cons (ps_if (pt_not (pt_val (pe_callB (Vc.call_isiU K) (by rfl) B.b_isinstance (by decide +kernel) (pa_cons (pv 0) (pa_cons (pe_bltn (v := .ty "str") (by rfl) B.b_str (by decide +kernel) rfl) pa_nil))))) (pss_one (ps_ret pe_non)) pss_nil)
      (pss_cons (ps_setLc (i := 1) (own := [("word", 5)]) rfl sc_ends_of.nd rfl rfl (sw_true rfl rfl rfl (by decide +kernel)) (Vc.pi_listK K (pe_m1 PySem.F.slot_str_split PySem.F.type_str_split mt_split (pv 0) pe_str)) (blkOk_by (N := n_ends_of) (sc := defScope s_ends_of) (own := [("word", 5)]) (by decide +kernel)) (fun _ _ _ _ _ => (pg_name (i := 5) sc_ends_of.nd rfl (Or.inl rfl))) (fun _ _ _ _ _ => pts_nil) (fun _ _ _ _ _ => (Vc.pe_callG G_number_of hr (by decide) rfl pass0 (pa_cons (pv 5) pa_nil))))
      (pss_cons (ps_if (pt_cmpR (Vc.op_inU K) pe_non (pv 1) (by rfl)) (pss_one (ps_ret pe_non)) pss_nil)
      (pss_cons (Mt.ps_match K rfl sc_ends_of.nd (pv 1) (Mt.McOk.plain (ns := [("only", _)]) (is := [2]) (by simp) (.cons ⟨rfl, rfl⟩ .nil) (pss_one (ps_ret (pe_tup (pa_cons (pv 2) (pa_cons (pv 2) pa_nil)))))
      (Mt.McOk.guard (ns := [("low", _), ("high", _)]) (is := [3, 4]) (by simp) (.cons ⟨rfl, rfl⟩ (.cons ⟨rfl, rfl⟩ .nil)) (pt_cmpR Vc.op_ltU (pv 3) (pv 4) (nomark _)) (pss_one (ps_ret (pe_tup (pa_cons (pv 3) (pa_cons (pv 4) pa_nil)))))
      Mt.McOk.nil)))
      (pss_one (ps_ret pe_non)))))), ?_⟩
    refine Vc.v_start (σ' := [some v, none, none, none, none, none]) rfl ?_
    walk_at "x"
    refine Vc.v_isi (.ty "str") hv.ty hv.kS ?_
    walk_at "x"
    cases hv with
    | str z hz =>
      refine Vc.v_iteE (c := false) rfl ?_
      walk_at "x"
      obtain ⟨hzl, kn, ks⟩ := k1 z rfl
      have hsz : z.length + 2 ≤ sizeLine := by
        rw [Vc.szE]
        omega
      refine ⟨z, "..", rfl, rfl, by decide +kernel, hsz, fun p hp => ?_⟩
      have ed : (".." : Str) = SX.S dots := by decide +kernel
      have esp : Txt.split z ".." = (TL.spl dots 0 [] (TL.tl z)).map SX.S := by
        have := SX.split_S (a := TL.tl z) (b := dots) (by simp [dots]) (by decide)
        rw [SX.S_tl] at this
        rw [ed]
        exact this
      rw [esp]
      have hpl := spl_len dots (TL.tl z) 0 []
      unfold endsP at kn ks
      revert kn ks hpl
      generalize hL : TL.spl dots 0 [] (TL.tl z) = Ps
      intro kn ks hpl
      have hps : Ps.length ≤ 16777210 := by
        have h2 := TL.len_tl z
        have h3 := spl_count dots (TL.tl z) 0 []
        rw [hL] at h3
        omega
      refine Vc.e_lcL1 (SqL.of upd_same) fun Dl hD => ?_
      refine ⟨fun i H' => Same (upd H p (.lst ((Ps.map SX.S).map V.str))) H' ∧ H' Dl = some (.lst (((Ps.take i).map Nu.numP).map oV)), ⟨same_new hD, upd_same⟩, fun i H' _ q => q.1.seq (SqL.of upd_same), fun i x H' hi q => ?_, fun H' q => ?_⟩
      · obtain ⟨q1, q2⟩ := q
        obtain ⟨pt, hpt, rfl⟩ : ∃ pt, Ps[i]? = some pt ∧ x = .str (SX.S pt) := by
          rw [List.map_map, List.getElem?_map] at hi
          cases e : Ps[i]? with
          | none => rw [e] at hi; cases hi
          | some pt =>
            rw [e] at hi
            exact ⟨pt, rfl, (Option.some.inj hi).symm⟩
        walk_at "x"
        have hpm := hpl pt (List.mem_of_getElem? hpt)
        refine ⟨SX.S pt, rfl, ?_, ?_⟩
        · rw [SX.S_len]
          have h2 := TL.len_tl z
          have h3 : ([] : List Nat).length = 0 := rfl
          omega
        · refine ⟨_, q2, ?_, fun b o e => Vc.h_mut (ne_of_none e hD) (q1 b o e), ?_⟩
          · rw [List.length_map, List.length_map, Vc.szE]
            have := List.length_take_le' i Ps
            omega
          · rw [Vc.take_succ hpt, List.map_append, List.map_append]
            exact upd_same
      · obtain ⟨q1, q2⟩ := q
        have et : Ps.take ((Ps.map SX.S).map V.str).length = Ps := by
          rw [List.length_map, List.length_map, List.take_length]
        rw [et] at q2
        have sH : Same H H' := (same_new hp).trans q1
        walk_at "x"
        revert kn ks q2
        generalize Ps.map Nu.numP = N
        intro kn ks q2
        refine Vc.v_inL (SqL.of q2) rfl (by
          rw [List.all_eq_true]
          intro v hv
          obtain ⟨o, _, rfl⟩ := List.mem_map.mp hv
          cases o <;> rfl) ?_
        walk_at "x"
        refine Vc.v_iteB (fun h1 => ?_) (fun h1 => ?_)
        · walk_at "x"
          refine kn ?_ H' sH
          match N, h1 with
          | [], _ => rfl
          | [none], _ => rfl
          | [some n], h1 => exact nomatch (show false = true from h1)
          | [none, x], _ => cases x <;> rfl
          | [some a, none], _ => rfl
          | [some a, some b], h1 => exact nomatch (show false = true from h1)
          | x :: y :: u :: r, _ => cases x <;> cases y <;> rfl
        · walk_at "x"
          refine ⟨Dl, _, rfl, SqL.of q2, ?_⟩
          match N, h1, kn, ks, q2 with
          | [], _, kn, _, q2 =>
            refine mc_miss (by decide) (mc_miss (by decide) (mc_end ?_))
            walk_at "x"
            exact kn rfl H' sH
          | [none], h1, _, _, _ => exact nomatch (show true = false from h1)
          | [some n], _, _, ks, q2 =>
            refine mc_hit rfl ?_
            refine Vc.v_start (σ' := [some (.str z), some (.ref Dl), some (.int n), none, none, none]) rfl ?_
            walk_at "x"
            refine ⟨by walk_at "sz", fun p4 hp4 => ?_⟩
            exact ks n n rfl p4 _ (sH.trans (same_new hp4)) upd_same
          | [none, x], h1, _, _, _ => exact nomatch (show true = false from h1)
          | [some a, none], h1, _, _, _ => exact nomatch (show true = false from h1)
          | [some a, some b], _, kn, ks, q2 =>
            refine mc_miss (by simp) (mc_hitG rfl ?_)
            refine tt_start (σ' := [some (.str z), some (.ref Dl), none, some (.int a), some (.int b), none]) rfl ?_
            walk_at "x"
            refine Vc.v_iteD (fun h2 => ?_) (fun h2 => ?_)
            · refine Vc.v_start (σ' := [some (.str z), some (.ref Dl), none, some (.int a), some (.int b), none]) rfl ?_
              walk_at "x"
              refine ⟨by walk_at "sz", fun p4 hp4 => ?_⟩
              exact ks a b (if_pos h2) p4 _ (sH.trans (same_new hp4)) upd_same
            · refine ⟨SqL.of q2, mc_end ?_⟩
              walk_at "x"
              exact kn (if_neg h2) H' sH
          | x :: y :: u :: r, _, kn, _, q2 =>
            refine mc_miss (by simp) (mc_miss (by simp) (mc_end ?_))
            walk_at "x"
            exact kn (by cases x <;> cases y <;> rfl) H' sH
    | _ => exact k2 rfl
theorem ok_from_text {f fI : Addr} {fd : FuncData} (F : Fun K "from_text" "Bounds.from_text" s_Bounds_from_text f fd) (B : Bt mg mt CB) (M_Bounds : Mk K CB fI) (F_Bounds : Ow.Fr P w K mg base 3 fI (sp_binit K CB CH CI)) (X_InvalidText : Xs.ExT P w K mg base "InvalidText" CT ["value"])
    (G_ends_of : Vc.FnG P w K mg base CX0 3 "ends_of" ["text"] (sp_ends_of K)) : FnOk P w K mg base (Ow.Cxx P w) 5 f fd ["cls", "text"] (sp_from_text K CB CT) := by
  refine F.okX sc_Bounds_from_text (fun vs H Q E h => ?_) (fun cdv A outer s H vs Q E hr h => ?_)
  · obtain ⟨v, t, rfl, _⟩ := h
    rfl
  · obtain ⟨v, ty, rfl, hv, k1, k2⟩ := h
    refine ⟨_, (pss_cons (ps_set (i := 2) sc_Bounds_from_text.nd rfl (Or.inl rfl) (Vc.pe_callG G_ends_of hr (by decide) rfl pass0 (pa_cons (pv 1) pa_nil)))
      (pss_cons (ps_if (pt_cmpR Xf.op_isU (pv 2) pe_non (nomark _)) (pss_one (Xs.ps_raiseX X_InvalidText hr (by decide) rfl (takes_of rfl rfl rfl rfl) rfl (pa_cons (pv 1) pa_nil))) pss_nil)
      (pss_cons (ps_asg (pv 2) (Vc.pg_K K (pg_tup rfl (pgs_cons (pg_name (i := 3) sc_Bounds_from_text.nd rfl (Or.inl rfl)) (pgs_cons (pg_name (i := 4) sc_Bounds_from_text.nd rfl (Or.inl rfl)) pgs_nil)))))
      (pss_one (ps_ret (Ow.pe_makeLW (i := 0) M_Bounds F_Bounds rfl (Or.inl rfl) hr (by decide) (takes_of rfl rfl rfl rfl) (pa_cons (pv 3) (pa_cons (pv 4) pa_nil)))))))), ?_⟩
    refine Vc.v_start (σ' := [some (.ref CB), some v, none, none, none]) rfl ?_
    walk_at "x"
    refine ⟨v, ty, rfl, hv, fun z ez => ⟨(k1 z ez).1, fun en H' s => ?_, fun a b es p H' s ep => ?_⟩, fun hs => ?_⟩
    · walk_at "x"
      refine Vc.v_iteDT rfl ?_
      walk_at "x"
      refine Xs.e_raise rfl (by decide) fun d hd => ?_
      exact k2 (fun z' e' => by rw [ez] at e'; cases e'; exact en) d _ (s.trans (same_new hd)) upd_same
    · walk_at "x"
      refine Vc.v_iteDF (fun z => nomatch z) ?_
      walk_at "x"
      refine ⟨p, _, rfl, SqT.of ep, rfl, ?_⟩
      refine gc_cons ?_
      walk_at "x"
      refine gc_cons ?_
      walk_at "x"
      refine gc_nil ?_
      walk_at "x"
      refine Ow.w_makeL rfl ?_
      walk_at "x"
      obtain ⟨g1, g2, g3⟩ := endsP_bd es
      exact e_mkB1 g1 g2 g3 fun x H2 s2 hx => (k1 z ez).2 a b es x H2 (s.trans s2) hx
    · walk_at "x"
      refine Vc.v_iteDT rfl ?_
      walk_at "x"
      refine Xs.e_raise rfl (by decide) fun d hd => ?_
      exact k2 (fun z' e' => by rw [e'] at hs; cases hs) d _ (same_new hd) upd_same
theorem ok_bstr {f : Addr} {fd : FuncData} (F : Fun K "__str__" "Bounds.__str__" s_Bounds___str__ f fd) (T : BdK K CB) : FnOk P w K mg base CX0 1 f fd ["self"] (sp_bstr CB) := by
  refine F.ok sc_Bounds___str__ (fun vs H Q E h => ?_) (fun cdv A outer s H vs Q E hr h => ?_)
  · obtain ⟨v, t, l, rfl, _⟩ := h
    rfl
  · obtain ⟨a, l, h, rfl, hb, k⟩ := h
    obtain ⟨dx, e⟩ := hb.ex
    have := hb.lo; have := hb.le; have := hb.hi
    have lg : ∀ n : Int, -1000000000000 ≤ n → n ≤ 1000000000000 → n.natAbs.log2 < 1920 := fun n h1 h2 => Vc.log2_small (by omega)
    have et : ∀ n : Int, (Str.ofString (toString n)) = SX.S (Nu.wrI n) := fun n => TL.ext_tl (Nu.tl_int n)
    have wl : ∀ n : Int, -1000000000000 ≤ n → n ≤ 1000000000000 → (Nu.wrI n).length ≤ 14 := fun n h1 h2 => by
      have hlen : (TL.numL n.natAbs).length ≤ 13 := TL.numL_len (by decide) (by have : n.natAbs < 10000000000000 := by omega
                                                                                exact Nat.lt_of_lt_of_le this (by decide))
      unfold Nu.wrI
      split
      · rw [List.length_cons]
        omega
      · omega
    refine ⟨_, (pss_cons (ps_if (pt_cmpR (Vc.op_eqU K hr) (Ow.pe_fldK K (pv 0) rfl) (Ow.pe_fldK K (pv 0) rfl) (nomark _)) (pss_one (ps_ret (pe_joined1 (pe_fmt (Ow.pe_fldK K (pv 0) rfl))))) pss_nil)
      (pss_one (ps_ret (Xf.pe_joinedT (PJ.cons (pe_fmt (Ow.pe_fldK K (pv 0) rfl)) (PJ.cons pe_str (PJ.cons (pe_fmt (Ow.pe_fldK K (pv 0) rfl)) PJ.nil))))))), ?_⟩
    refine Vc.v_start (σ' := [some (.ref a)]) rfl ?_
    walk_at "x"
    refine ⟨_, _, _, _, _, rfl, e, T.cls, T.nl, rfl, ?_⟩
    walk_at "x"
    refine ⟨_, _, _, _, _, rfl, e, T.cls, T.nh, rfl, ?_⟩
    refine Vc.v_eqU rfl ?_
    walk_at "x"
    refine Vc.v_iteD (fun h1 => ?_) (fun h1 => ?_)
    · have e1 : l = h := V.int.inj h1
      walk_at "x"
      refine ⟨_, _, _, _, _, rfl, e, T.cls, T.nl, rfl, ?_⟩
      refine Xf.x_fmtI (lg l (by omega) (by omega)) ?_
      walk_at "x"
      have e2 : txt l h = Nu.wrI l := if_pos e1
      rw [e2] at k
      rw [et]
      exact k
    · have e1 : l ≠ h := fun z => h1 (by rw [z])
      walk_at "x"
      refine ⟨_, _, _, _, _, rfl, e, T.cls, T.nl, rfl, ?_⟩
      have em : ∀ y : Str, Str.empty ++ y = y := fun y => TL.ext_tl (by rw [TL.tl_append]; rfl)
      have ed : (".." : Str) = SX.S dots := by decide +kernel
      have w1 := wl l (by omega) (by omega)
      have w2 := wl h (by omega) (by omega)
      have hdl : dots.length = 2 := rfl
      refine .inr ⟨l, rfl, lg l (by omega) (by omega), _, rfl, ?_, ?_⟩
      · rw [em, et, SX.S_len, Vc.szE]
        omega
      rw [em, et]
      walk_at "x"
      refine ⟨_, rfl, ?_, ?_⟩
      · rw [ed, SX.S_cat, SX.S_len, List.length_append, Vc.szE]
        omega
      rw [ed, SX.S_cat]
      walk_at "x"
      refine ⟨_, _, _, _, _, rfl, e, T.cls, T.nh, rfl, ?_⟩
      refine .inr ⟨h, rfl, lg h (by omega) (by omega), _, rfl, ?_, ?_⟩
      · rw [et, SX.S_cat, SX.S_len, List.length_append, List.length_append, Vc.szE]
        omega
      rw [et, SX.S_cat]
      walk_at "x"
      have e2 : txt l h = Nu.wrI l ++ dots ++ Nu.wrI h := if_neg e1
      rw [e2] at k
      exact k
end

end K03

set_option Elab.async false
set_option maxRecDepth 100000
set_option maxHeartbeats 4000000
namespace K03
open PySem L2
local macro_rules | `(tactic| walk_at "hp") => `(tactic| first | assumption | exact upd_same | (refine Vc.h_new (by assumption) ?_; walk_at "hp") | (refine Vc.h_mut (by assumption) ?_; walk_at "hp"))
local macro_rules | `(tactic| walk_at "sq") => `(tactic| first | assumption | (refine SqL.of ?_; walk_at "hp") | (refine SqT.of ?_; walk_at "hp"))
local macro_rules | `(tactic| walk_at "v1") => `(tactic| first
  | with_reducible refine Vc.v_seq ?_
  | with_reducible refine Vc.v_ret ?_
  | with_reducible refine Vc.v_retN ?_
  | with_reducible refine Vc.v_drop ?_
  | with_reducible refine Vc.v_next ?_
  | with_reducible refine Vc.v_asg ?_
  | with_reducible refine Vc.v_ifS ?_
  | ((with_reducible refine' Vc.v_name ?vv ?_); (case vv => ((conv => lhs; simp only [List.set_cons_succ, List.set_cons_zero]); first | done | exact rfl)))
  | ((with_reducible refine' Vc.v_var ?vv ?_); (case vv => exact rfl))
  | with_reducible refine Vc.v_c ?_
  | with_reducible refine Vc.v_op ?_
  | with_reducible refine Vc.v_un ?_
  | with_reducible refine Vc.v_chain ?_
  | with_reducible refine Vc.v_test ?_
  | with_reducible refine Vc.v_B ?_
  | with_reducible refine Vc.v_and ?_
  | with_reducible refine Vc.v_or ?_
  | with_reducible refine Vc.v_not ?_
  | with_reducible refine Vc.v_andV ?_
  | with_reducible refine Vc.v_orV ?_
  | with_reducible refine Vc.v_notV ?_
  | with_reducible refine Vc.v_if ?_
  | with_reducible refine Vc.v_bl ?_
  | with_reducible refine Vc.v_blP ?_
  | with_reducible refine Vc.v_cb ?_
  | with_reducible refine Vc.v_call ?_
  | with_reducible refine Vc.v_nil ?_
  | with_reducible refine Vc.v_cons ?_
  | with_reducible refine Vc.v_lst ?_
  | with_reducible refine Vc.v_tup ?_
  | with_reducible refine Vc.v_m0 ?_
  | with_reducible refine Vc.v_m1 ?_
  | with_reducible refine Vc.v_strAnd ?_
  | with_reducible refine Vc.v_sl ?_
  | with_reducible refine Vc.v_noPart ?_
  | with_reducible refine Vc.v_part ?_
  | with_reducible refine Vc.v_int ?_
  | with_reducible refine Vc.v_I0 ?_
  | with_reducible refine Vc.v_U ?_
  | with_reducible refine Vc.v_addI ?_
  | with_reducible refine Vc.v_leU ?_
  | with_reducible refine Vc.v_geU ?_
  | with_reducible refine Vc.v_gtU ?_
  | with_reducible refine Vc.v_ltU ?_
  | with_reducible refine Vc.v_ltS ?_
  | with_reducible refine Vc.v_max2 ?_
  | with_reducible refine Vc.v_min2 ?_
  | with_reducible refine Vc.v_reprB ?_
  | with_reducible refine Vc.v_intI ?_
  | with_reducible refine Vc.v_intB ?_
  | with_reducible refine Vc.v_strS ?_
  | with_reducible refine Vc.v_par ?_
  | ((with_reducible refine' Vc.v_twoS ?vv ?_); (case vv => ((conv => lhs; simp only [List.set_cons_succ, List.set_cons_zero]); first | done | exact rfl)))
  | with_reducible refine Vc.v_iteT ?_
  | with_reducible refine Vc.v_iteF ?_
  | with_reducible refine Vc.v_iteFt ?_
  | with_reducible refine Vc.v_iteTf ?_
  | with_reducible refine Vc.v_for ?_
  | with_reducible refine Vc.v_yes ?_
  | with_reducible refine Vc.v_sm0 ?_
  | with_reducible refine Vc.v_callKn ?_
  | with_reducible refine Vc.v_gSub ?_
  | with_reducible refine Vc.v_disp ?_
  | with_reducible refine Vc.v_pnil ?_
  | with_reducible refine Vc.v_pcons ?_
  | with_reducible refine Vc.v_lc ?_
  | with_reducible refine Vc.v_iList ?_
  | with_reducible refine Vc.v_iRng1 ?_
  | with_reducible refine Vc.v_iRng2 ?_
  | with_reducible refine Vc.v_iStr ?_
  | with_reducible refine Vc.v_inS ?_
  | with_reducible refine Vc.v_notInS ?_)
local macro_rules | `(tactic| walk_at "v") => `(tactic| repeat walk_at "v1")
local macro_rules | `(tactic| walk_at "sz") => `(tactic| (simp only [List.length_cons, List.length_nil, List.length_append, List.length_map, List.length_set, Vc.szE]; first | decide | omega))
local macro_rules | `(tactic| walk_at "n1") => `(tactic| first
  | with_reducible refine Vc.v_seq ?_
  | with_reducible refine Vc.v_ret ?_
  | with_reducible refine Vc.v_retN ?_
  | with_reducible refine Vc.v_drop ?_
  | with_reducible refine Vc.v_next ?_
  | with_reducible refine Vc.v_asg ?_
  | with_reducible refine Vc.v_ifS ?_
  | ((with_reducible refine' Vc.v_name ?vv ?_); (case vv => ((conv => lhs; simp only [List.set_cons_succ, List.set_cons_zero]); first | done | exact rfl)))
  | ((with_reducible refine' Vc.v_var ?vv ?_); (case vv => exact rfl))
  | with_reducible refine Vc.v_c ?_
  | with_reducible refine Vc.v_op ?_
  | with_reducible refine Vc.v_un ?_
  | with_reducible refine Vc.v_chain ?_
  | with_reducible refine Vc.v_test ?_
  | with_reducible refine Vc.v_B ?_
  | with_reducible refine Vc.v_not ?_
  | with_reducible refine Vc.v_notV ?_
  | with_reducible refine Vc.v_if ?_
  | with_reducible refine Vc.v_bl ?_
  | with_reducible refine Vc.v_blP ?_
  | with_reducible refine Vc.v_cb ?_
  | with_reducible refine Vc.v_call ?_
  | with_reducible refine Vc.v_nil ?_
  | with_reducible refine Vc.v_cons ?_
  | with_reducible refine Vc.v_lst ?_
  | with_reducible refine Vc.v_tup ?_
  | with_reducible refine Vc.v_m0 ?_
  | with_reducible refine Vc.v_m1 ?_
  | with_reducible refine Vc.v_strAnd ?_
  | with_reducible refine Vc.v_sl ?_
  | with_reducible refine Vc.v_noPart ?_
  | with_reducible refine Vc.v_part ?_
  | with_reducible refine Vc.v_int ?_
  | with_reducible refine Vc.v_I0 ?_
  | with_reducible refine Vc.v_U ?_
  | with_reducible refine Vc.v_addI ?_
  | with_reducible refine Vc.v_leU ?_
  | with_reducible refine Vc.v_geU ?_
  | with_reducible refine Vc.v_gtU ?_
  | with_reducible refine Vc.v_ltU ?_
  | with_reducible refine Vc.v_ltS ?_
  | with_reducible refine Vc.v_max2 ?_
  | with_reducible refine Vc.v_min2 ?_
  | with_reducible refine Vc.v_reprB ?_
  | with_reducible refine Vc.v_intI ?_
  | with_reducible refine Vc.v_intB ?_
  | with_reducible refine Vc.v_strS ?_
  | with_reducible refine Vc.v_par ?_
  | ((with_reducible refine' Vc.v_twoS ?vv ?_); (case vv => ((conv => lhs; simp only [List.set_cons_succ, List.set_cons_zero]); first | done | exact rfl)))
  | with_reducible refine Vc.v_iteT ?_
  | with_reducible refine Vc.v_iteF ?_
  | with_reducible refine Vc.v_iteFt ?_
  | with_reducible refine Vc.v_iteTf ?_
  | with_reducible refine Vc.v_for ?_
  | with_reducible refine Vc.v_yes ?_
  | with_reducible refine Vc.v_sm0 ?_
  | with_reducible refine Vc.v_callKn ?_
  | with_reducible refine Vc.v_gSub ?_
  | with_reducible refine Vc.v_disp ?_
  | with_reducible refine Vc.v_pnil ?_
  | with_reducible refine Vc.v_pcons ?_
  | with_reducible refine Vc.v_lc ?_
  | with_reducible refine Vc.v_iList ?_
  | with_reducible refine Vc.v_iRng1 ?_
  | with_reducible refine Vc.v_iRng2 ?_
  | with_reducible refine Vc.v_iStr ?_
  | with_reducible refine Vc.v_inS ?_
  | with_reducible refine Vc.v_notInS ?_)
local macro_rules | `(tactic| walk_at "w1") => `(tactic| first
  | with_reducible refine Ow.w_call ?_
  | with_reducible refine Ow.w_make ?_
  | with_reducible refine Ow.w_meth ?_
  | with_reducible refine Ow.w_neg ?_
  | with_reducible refine Ow.w_bin ?_
  | with_reducible refine Ow.w_makeK ?_
  | with_reducible refine Ow.w_cmeth ?_
  | with_reducible refine Ow.w_cmethK ?_
  | with_reducible refine Ow.w_prop ?_
  | with_reducible refine Ow.w_fld ?_
  | with_reducible refine Ow.w_sfld ?_
  | with_reducible refine Ow.w_xf ?_
  | with_reducible refine Ow.w_raise ?_
  | with_reducible refine Ow.w_try ?_
  | ((with_reducible refine' Ow.w_gone ?vv ?_); (case vv => ((conv => lhs; simp only [List.set_cons_succ, List.set_cons_zero]); first | done | exact rfl)))
  | with_reducible refine Ow.w_and ?_)
local macro_rules | `(tactic| walk_at "w") => `(tactic| repeat (first | walk_at "v1" | walk_at "w1"))
local macro_rules | `(tactic| walk_at "n") => `(tactic| repeat (first | walk_at "n1" | walk_at "w1"))
local macro_rules | `(tactic| walk_at "x1") => `(tactic| first
  | with_reducible refine Xf.x_joinF ?_
  | with_reducible refine Xf.x_js ?_
  | with_reducible refine Xf.x_js0 ?_
  | with_reducible refine Xf.x_fmt ?_
  | with_reducible refine Xf.x_isN ?_
  | with_reducible refine Xf.x_notN ?_
  | with_reducible refine Xf.x_inT ?_
  | with_reducible refine Xf.x_notInT ?_
  | with_reducible refine Xf.x_match ?_)
local macro_rules | `(tactic| walk_at "x") => `(tactic| repeat (first | walk_at "v1" | walk_at "w1" | walk_at "x1"))
local macro_rules | `(tactic| walk_at "y") => `(tactic| repeat (first | walk_at "n1" | walk_at "w1" | walk_at "x1"))

def asc (z : Str) : Prop := ∀ c ∈ TL.tl z, c < 128
def sp_lnum : Sp := fun vs H Q _ => ∃ z, vs = [.str z] ∧ asc z ∧ z.length ≤ 100000 ∧ ∀ H', Same H H' → Q (oV (Nu.numP (TL.tl z))) H'
def sp_ldue : Sp := fun vs H Q _ => ∃ z, vs = [.str z] ∧ asc z ∧ z.length ≤ 100000 ∧ ∀ p H', Same H H' → H' p = some (.lst [oV (dueP (TL.tl z)).1, oV (dueP (TL.tl z)).2]) → Q (.ref p) H'
section
variable {P : Program} {w : World} {K : PySem.W.Frag} {mg : Str → Option Value} {base : Heap} {mt : Tok} {CB CH CI CT : Addr}
theorem e_forS {x : Str} {g : TG} {s1 : TS} {D : Ends} {σ : L2.St} {H : Hp} (Pv : Nat → L2.St → Hp → Prop) (h0 : Pv 0 σ H)
    (hs : ∀ (i c : Nat) σ H, x.cps[i]? = some c → Pv i σ H → g (.str ⟨#[c]⟩) σ H fun σ2 H2 => s1 { D with nx := Pv (i + 1), ct := Pv (i + 1), bk := D.nx } σ2 H2) (hd : ∀ σ H, Pv x.cps.size σ H → D.nx σ H) : ∃ x', V.str x = .str x' ∧ Vc.ForW g s1 D σ (Its x') H := by
  refine ⟨x, rfl, fun i m σ H => m = x.cps.size - i ∧ i ≤ x.cps.size ∧ Pv i σ H, ⟨_, rfl, Nat.zero_le _, h0⟩, ?_⟩
  rintro i m σ H ⟨rfl, hi, p⟩
  by_cases h : i < x.cps.size
  · refine .inr ⟨h, Pv (i + 1), fun σ' H' q => ⟨x.cps.size - (i + 1), by omega, rfl, by omega, q⟩, ?_⟩
    rintro v H' ⟨rfl, c, hc, rfl⟩
    exact hs i c σ H' hc p
  · have e : i = x.cps.size := by omega
    subst e
    exact .inl ⟨Nat.le_refl _, hd σ H p⟩
theorem cut_from (z : Str) (i : Nat) (h : i ≤ z.length) : TL.tl (cutS z (some (i : Int)) none) = (TL.tl z).drop i := by
  unfold cutS
  rw [TL.tl_mk, HT.sIx_nat, HT.sIx_none, Nat.min_eq_left h]
  refine List.take_of_length_le ?_
  rw [List.length_drop, TL.len_tl]
  exact Nat.le_refl _
theorem cut_to (z : Str) (i : Nat) (h : i ≤ z.length) : TL.tl (cutS z none (some (i : Int))) = (TL.tl z).take i := by
  unfold cutS
  rw [TL.tl_mk, HT.sIx_nat, HT.sIx_none, Nat.min_eq_left h]
  rfl
theorem neg_cut (z : Str) : (cutS z none (some 1) = "-") ↔ Nu.neg (TL.tl z) = true := by
  have e3 : TL.tl ("-" : Str) = [45] := by decide +kernel
  have key : TL.tl (cutS z none (some 1)) = (TL.tl z).take 1 := by
    by_cases h : 1 ≤ z.length
    · exact cut_to z 1 h
    · have h0 : TL.tl z = [] := List.length_eq_zero_iff.mp (by rw [← TL.len_tl]; omega)
      unfold cutS
      rw [TL.tl_mk]
      show List.take _ (List.drop _ (TL.tl z)) = _
      rw [h0]
      simp
  constructor
  · intro h
    have h2 := congrArg TL.tl h
    rw [key, e3] at h2
    cases e : TL.tl z with
    | nil => rw [e] at h2; cases h2
    | cons a r =>
      rw [e] at h2
      have : a = 45 := (List.cons.inj h2).1
      unfold Nu.neg
      rw [this]
      rfl
  · intro h
    refine TL.ext_tl ?_
    rw [key, e3]
    cases e : TL.tl z with
    | nil => rw [e] at h; cases h
    | cons a r =>
      rw [e] at h
      have h1 : (some a == some 45) = true := h
      rw [beq_iff_eq] at h1
      rw [Option.some.inj h1]
      rfl
theorem val_take {D : List Nat} {i c : Nat} (h : D[i]? = some c) : Nu.val (D.take (i + 1)) = Nu.val (D.take i) * 10 + (c - 48) := by
  rw [Vc.take_succ h, Nu.val_snoc]
theorem find_dig {c : Nat} (h : 48 ≤ c ∧ c ≤ 57) : Txt.find "0123456789" ⟨#[c]⟩ = ((c - 48 : Nat) : Int) := by
  have key : ∀ d : Nat, d < 10 → Txt.find "0123456789" ⟨#[48 + d]⟩ = (d : Int) := by decide +kernel
  have := key (c - 48) (by omega)
  rw [show 48 + (c - 48) = c by omega] at this
  exact this
theorem dig_mem {c : Nat} : c ∈ ("0123456789" : Str).cps.toList ↔ 48 ≤ c ∧ c ≤ 57 := by
  have e : ("0123456789" : Str).cps.toList = (List.range 10).map (· + 48) := by decide +kernel
  rw [e, List.mem_map]
  constructor
  · rintro ⟨a, ha, rfl⟩
    rw [List.mem_range] at ha
    omega
  · intro h
    exact ⟨c - 48, by rw [List.mem_range]; omega, by omega⟩
theorem name_as {i : Nat} {v v' : V} {σ : L2.St} {H : Hp} {Qs : L2.St → Hp → Prop} (e : v' = v) (h : gName i v' σ H Qs) : gName i v σ H Qs := e ▸ h
theorem val_lt : ∀ (n : Nat) (D : List Nat), D.length = n → Nu.AllD D → Nu.val D < 10 ^ n := by
  intro n
  induction n with
  | zero =>
    intro D hl _
    rw [List.length_eq_zero_iff.mp hl]
    decide
  | succ n ih =>
    intro D hl ha
    have h0 : D ≠ [] := fun z => by rw [z] at hl; cases hl
    obtain ⟨D', c, rfl⟩ : ∃ D' c, D = D' ++ [c] := ⟨D.dropLast, D.getLast h0, (List.dropLast_concat_getLast h0).symm⟩
    have hc : 48 ≤ c ∧ c ≤ 57 := ha c (by simp)
    have h1 := ih D' (by rw [List.length_append] at hl; have : ([c] : List Nat).length = 1 := rfl; omega) fun x hx => ha x (List.mem_append_left _ hx)
    rw [Nu.val_snoc, Nat.pow_succ]
    omega
theorem ok_lnum {f : Addr} {fd : FuncData} (F : Fun K "_law_number" "_law_number" s__law_number f fd) (B : Bt mg mt CB) (G__law_written : Vc.FnG P w K mg base CX0 1 "_law_written" ["_law_number_here"] sp_written) : FnOk P w K mg base CX0 2 f fd ["_law_word"] sp_lnum := by
  refine F.ok sc__law_number (fun vs H Q E h => ?_) (fun cdv A outer s H vs Q E hr h => ?_)
  · obtain ⟨z, rfl, _⟩ := h
    rfl
  · obtain ⟨z, rfl, hasc, hz, k⟩ := h
    have hsz : z.length ≤ sizeLine := Nat.le_trans hz (by decide)
    refine ⟨_, (pss_cons (ps_set (i := 1) sc__law_number.nd rfl (Or.inl rfl) (pe_ifExp (pt_cmpR (Vc.op_eqU K hr) (pe_slice (Vc.sl_U K) (pv 0) po_none (po_some pe_int)) pe_str (nomark _)) (pe_slice (Vc.sl_U K) (pv 0) (po_some pe_int) po_none) (pv 0)))
      (pss_cons (ps_if (PW.pt (pw_or (pt_cmpR (Vc.op_eqU K hr) (pv 1) pe_str (nomark _)) (pw_or (pt_cmpR Vc.op_gtU (pe_callB (Vc.call_lenU K) (by rfl) B.b_len (by decide +kernel) (pa_cons (pv 1) pa_nil)) pe_int (nomark _)) (pw_or1 (pt_cmpR (Vc.op_neU K hr) (pe_lc (own := [("_law_sign", 3)]) rfl sc__law_number.nd (pi_str (pv 1)) (blkOk_by (N := n__law_number) (sc := defScope s__law_number) (own := [("_law_sign", 3)]) (by decide +kernel)) (fun _ _ _ _ _ => (pg_name (i := 3) sc__law_number.nd rfl (Or.inl rfl))) (fun _ _ _ _ _ => (pts_one (pt_cmpR (Vc.op_notInU K) (pv 3) pe_str (by rfl)))) (fun _ _ _ _ _ => (pv 3))) (pe_lst pa_nil) (nomark _)))))) (pss_one (ps_ret pe_non)) pss_nil)
      (pss_cons (ps_set (i := 2) sc__law_number.nd rfl (Or.inl rfl) pe_int)
      (pss_cons (ps_for PassesOwn.never rfl (pi_str (pv 1)) (pg_name (i := 3) sc__law_number.nd rfl (Or.inl rfl))
      (pss_one (ps_set (i := 2) sc__law_number.nd rfl (Or.inl rfl) (pe_op Vc.op_addU (pe_op Vc.op_mulU pe_int (pv 2)) (pe_m1 PySem.F.slot_str_find PySem.F.type_str_find mt_find pe_str (pv 3))))))
      (pss_cons (ps_set (i := 2) sc__law_number.nd rfl (Or.inl rfl) (pe_ifExp (pt_cmpR (Vc.op_eqU K hr) (pe_slice (Vc.sl_U K) (pv 0) po_none (po_some pe_int)) pe_str (nomark _)) (pe_un un_neg (pv 2)) (pv 2)))
      (pss_one (ps_ret (pe_ifExp (PW.pt (pw_and (pt_cmpR (Vc.op_eqU K hr) (Vc.pe_callG G__law_written hr (by decide) rfl pass0 (pa_cons (pv 2) pa_nil)) (pv 0) (nomark _)) (pw_and1 (pt_cmpR Vc.op_leU (pe_callB call_abs (by rfl) B.b_abs (by decide +kernel) (pa_cons (pv 2) pa_nil)) (pe_op op_pow pe_int pe_int) (nomark _))))) (pv 2) pe_non)))))))), ?_⟩
    refine Vc.v_start (σ' := [some (.str z), none, none, none]) rfl ?_
    walk_at "x"
    refine Vc.v_slS hsz ?_
    refine Vc.v_eqU rfl ?_
    walk_at "x"
    have no : Nu.numP (TL.tl z) = none → ∀ H', Same H H' → Q .non H' := fun e H' s => by
      have := k H' s
      rw [e] at this
      exact this
    have gen : ∀ y : Str, TL.tl y = Nu.dg (TL.tl z) → (∀ D' : Ends, D'.rt = Q → True) → y.length ≤ z.length := fun y e _ => by
      rw [TL.len_tl, TL.len_tl, e]
      unfold Nu.dg
      split
      · rw [List.length_tail]
        omega
      · exact Nat.le_refl _
    refine' Vc.v_iteD (fun h1 => ?brA) (fun h1 => ?brB)
    case' brA =>
      have hneg := (neg_cut z).mp (V.str.inj h1)
      walk_at "x"
      refine Vc.v_slS hsz ?_
      have ey : TL.tl (cutS z (some 1) none) = Nu.dg (TL.tl z) := by
        have h1 : 1 ≤ z.length := by
          rw [TL.len_tl]
          cases e : TL.tl z with
          | nil => rw [e] at hneg; cases hneg
          | cons a r => rw [List.length_cons]; omega
        unfold Nu.dg
        rw [if_pos hneg]
        exact (cut_from z 1 h1).trans List.drop_one
      revert ey
      generalize cutS z (some 1) none = y
      intro ey
    case' brB =>
      have hneg : Nu.neg (TL.tl z) = false := by
        rw [Bool.eq_false_iff]
        intro e
        exact h1 (by rw [(neg_cut z).mpr e])
      obtain ⟨y, hyz⟩ : ∃ y : Str, y = z := ⟨z, rfl⟩
      have ey : TL.tl y = Nu.dg (TL.tl z) := by
        rw [hyz]
        unfold Nu.dg
        rw [hneg]
        exact (if_neg (by decide)).symm
      refine Vc.v_var rfl ?_
      refine name_as (v' := V.str y) (by rw [hyz]) ?_
      clear hyz
    all_goals (
      have hly : y.length ≤ z.length := gen y ey fun _ _ => trivial
      have hys : y.length ≤ sizeLine := Nat.le_trans hly hsz
      walk_at "x"
      refine Vc.v_eqU rfl ?_
      walk_at "x"
      refine Vc.v_iteD (fun h2 => ?_) (fun h2 => ?_)
      · walk_at "x"
        refine no (if_neg ?_) H (Same.refl H)
        rintro ⟨g, _⟩
        refine g ?_
        rw [← ey, V.str.inj h2]
        decide +kernel
      have hne : Nu.dg (TL.tl z) ≠ [] := fun e => h2 (by rw [TL.ext_tl (x := y) (y := "") (by rw [ey, e]; decide +kernel)])
      walk_at "x"
      refine Vc.v_lenS hys ?_
      walk_at "x"
      refine Vc.v_iteD (fun h3 => ?_) (fun h3 => ?_)
      · walk_at "x"
        refine no (if_neg ?_) H (Same.refl H)
        rintro ⟨_, _, g3, _⟩
        rw [← ey, ← TL.len_tl] at g3
        omega
      have hl13 : (Nu.dg (TL.tl z)).length ≤ 13 := by
        rw [← ey, ← TL.len_tl]
        omega
      walk_at "x"
      refine Vc.e_lcS1 fun Dl hD => ?_
      refine ⟨fun i H' => Same H H' ∧ H' Dl = some (.lst ((((y.cps.toList.take i).filter fun c => !decide (c ∈ ("0123456789" : Str).cps.toList)).map fun c => (⟨#[c]⟩ : Str)).map V.str)), ⟨same_new hD, upd_same⟩, fun i c H' hi q => ?_, fun H' q => ?_⟩
      · obtain ⟨p1, p2⟩ := q
        have hi' : y.cps.toList[i]? = some c := by rw [Array.getElem?_toList]; exact hi
        walk_at "x"
        refine Vc.v_iteN (fun h4 => ?_) (fun h4 => ?_)
        · have h4' : c ∉ ("0123456789" : Str).cps.toList := h4
          walk_at "x"
          refine ⟨_, p2, ?_, fun b o e => Vc.h_mut (ne_of_none e hD) (p1 b o e), ?_⟩
          · rw [List.length_map, List.length_map, Vc.szE]
            have h5 := List.length_filter_le (fun c => !decide (c ∈ ("0123456789" : Str).cps.toList)) (y.cps.toList.take i)
            have h6 := List.length_take_le' i y.cps.toList
            have h7 : y.cps.toList.length = y.length := Array.length_toList
            omega
          · rw [Vc.take_succ hi', List.filter_append, List.filter_cons, if_pos (by simp [h4']), List.map_append, List.map_append]
            exact upd_same
        · have h4' : c ∈ ("0123456789" : Str).cps.toList := h4
          refine ⟨p1, ?_⟩
          rw [Vc.take_succ hi', List.filter_append, List.filter_cons, if_neg (by simp [h4']), List.filter_nil, List.append_nil]
          exact p2
      · obtain ⟨p1, p2⟩ := q
        walk_at "x"
        refine ⟨by decide, fun l hl => ?_⟩
        have et : y.cps.toList.take y.cps.size = y.cps.toList := by rw [List.take_of_length_le (by simp)]
        rw [et] at p2
        have sl : Same H (upd H' l (.lst [])) := p1.trans (same_new hl)
        have em : (List.map PyData.str (List.map (fun c => (⟨#[c]⟩ : Str)) (List.filter (fun c => !decide (c ∈ ("0123456789" : Str).cps.toList)) y.cps.toList))).isEmpty = decide (∀ c ∈ TL.tl y, 48 ≤ c ∧ c ≤ 57) := by
          rw [Bool.eq_iff_iff, decide_eq_true_eq, List.isEmpty_iff, List.map_eq_nil_iff, List.map_eq_nil_iff, List.filter_eq_nil_iff]
          constructor
          · intro h c hc
            have h7 := h c hc
            rw [Bool.not_eq_true', Bool.not_eq_false, decide_eq_true_eq] at h7
            exact dig_mem.mp h7
          · intro h c hc
            rw [Bool.not_eq_true', Bool.not_eq_false, decide_eq_true_eq]
            exact dig_mem.mpr (h c hc)
        refine Vc.v_neD (.lst (SqL.of (Vc.h_new hl p2)) Vc.dp_strs) (.lst (SqL.of upd_same) .nil) (Vc.shaped_strs fun x hx => ?_) (by decide) ?_
        · rw [List.mem_map] at hx
          obtain ⟨c, hc, rfl⟩ := hx
          have hcy : c ∈ TL.tl y := (List.mem_filter.mp hc).1
          have h6 : c < 128 := by
            rw [ey] at hcy
            refine hasc c ?_
            unfold Nu.dg at hcy
            split at hcy
            all_goals first | exact hcy | exact List.mem_of_mem_tail hcy
          show (#[c].all (· < 0x110000)) = true
          simp
          omega
        rw [Vc.eqv_nil, em]
        walk_at "x"
        refine Vc.v_iteN (fun h5 => ?_) (fun h5 => ?_)
        · walk_at "x"
          refine no (if_neg ?_) _ sl
          rintro ⟨_, g2, _⟩
          rw [← ey] at g2
          exact h5 (Nu.alld.mp g2)
        have had : Nu.AllD (Nu.dg (TL.tl z)) := by
          rw [← ey]
          exact h5
        generalize hH2 : upd H' l (.lst []) = H2
        rw [hH2] at sl
        walk_at "x"
        refine e_forS (fun i σ H3 => H3 = H2 ∧ ∃ x3, σ = [some (.str z), some (.str y), some (.int ((Nu.val ((TL.tl y).take i) : Nat) : Int)), x3]) ⟨rfl, _, rfl⟩ ?_ ?_
        · rintro i c σ H3 hi ⟨rfl, x3, rfl⟩
          have hi' : (TL.tl y)[i]? = some c := by
            show y.cps.toList[i]? = some c
            rw [Array.getElem?_toList]
            exact hi
          have hcd : 48 ≤ c ∧ c ≤ 57 := h5 c (List.mem_of_getElem? hi')
          walk_at "x"
          refine Vc.v_mulI (.inl ⟨by decide, by decide⟩) ?_
          walk_at "x"
          refine ⟨_, _, rfl, rfl, ?_⟩
          rw [find_dig hcd]
          walk_at "x"
          refine ⟨rfl, some (.str ⟨#[c]⟩), ?_⟩
          have e9 : (10 : Int) * ((Nu.val ((TL.tl y).take i) : Nat) : Int) + ((c - 48 : Nat) : Int) = ((Nu.val ((TL.tl y).take (i + 1)) : Nat) : Int) := by
            rw [val_take hi']
            omega
          rw [e9]
        · rintro σ H3 ⟨rfl, x3, rfl⟩
          have et2 : (TL.tl y).take y.cps.size = TL.tl y := by rw [List.take_of_length_le (by simp)]
          rw [et2, ey]
          walk_at "x"
          refine Vc.v_slS hsz ?_
          refine Vc.v_eqU rfl ?_
          walk_at "x"
          have hvl : Nu.val (Nu.dg (TL.tl z)) < 10000000000000 := by
            have h7 := val_lt _ _ rfl had
            have h8 : 10 ^ (Nu.dg (TL.tl z)).length ≤ 10 ^ 13 := Nat.pow_le_pow_right (by decide) hl13
            exact Nat.lt_of_lt_of_le h7 (Nat.le_trans h8 (by decide))
          have hnP : Nu.numP (TL.tl z) = if Nu.wrI (Nu.sgv (TL.tl z)) = TL.tl z ∧ (Nu.sgv (TL.tl z)).natAbs ≤ 1000000000000 then some (Nu.sgv (TL.tl z)) else none := by
            rw [Nu.numP_eq, if_pos ⟨hne, hl13, Nu.alld.mpr had⟩]
          have hb : -10000000000000 < Nu.sgv (TL.tl z) ∧ Nu.sgv (TL.tl z) < 10000000000000 := by
            unfold Nu.sgv
            split <;> omega
          first
          | (refine Vc.v_iteDT h1 ?_
             have hs : -((Nu.val (Nu.dg (TL.tl z)) : Nat) : Int) = Nu.sgv (TL.tl z) := by
               unfold Nu.sgv
               rw [if_pos hneg]
             walk_at "x"
             rw [hs])
          | (refine Vc.v_iteDF h1 ?_
             have hs : ((Nu.val (Nu.dg (TL.tl z)) : Nat) : Int) = Nu.sgv (TL.tl z) := by
               unfold Nu.sgv
               rw [hneg, if_neg (by decide)]
             walk_at "x"
             rw [hs])
          refine ⟨_, rfl, hb.1, hb.2, ?_⟩
          walk_at "x"
          refine Vc.v_eqU rfl ?_
          walk_at "x"
          refine Vc.v_iteD (fun h8 => ?_) (fun h8 => ?_)
          · have e8 : Nu.wrI (Nu.sgv (TL.tl z)) = TL.tl z := congrArg TL.tl (V.str.inj h8)
            walk_at "x"
            refine ⟨_, rfl, ?_⟩
            walk_at "x"
            refine Vc.v_powc (z := 1000000000000) (by decide) (by decide) (by decide) (by decide) ?_
            walk_at "x"
            have ea : (if Nu.sgv (TL.tl z) < 0 then -Nu.sgv (TL.tl z) else Nu.sgv (TL.tl z)) = ((Nu.sgv (TL.tl z)).natAbs : Int) := by
              split <;> omega
            rw [ea]
            refine Vc.v_iteD (fun h9 => ?_) (fun h9 => ?_)
            · walk_at "x"
              have k9 := k _ sl
              rw [hnP, if_pos ⟨e8, by omega⟩] at k9
              exact k9
            · walk_at "x"
              refine no ?_ _ sl
              rw [hnP, if_neg (fun g => h9 (by omega))]
          · walk_at "x"
            refine no ?_ _ sl
            rw [hnP, if_neg]
            rintro ⟨g, _⟩
            exact h8 (by rw [g, SX.S_tl]))
theorem dots_find (z : Str) : (Txt.contains z ".." = false ∧ ∀ i, TL.pre dots ((TL.tl z).drop i) = false) ∨ ∃ i : Nat, Txt.contains z ".." = true ∧ Txt.find z ".." = (i : Int) ∧ TL.pre dots ((TL.tl z).drop i) = true ∧ i + 2 ≤ z.length ∧ ∀ k, k < i → TL.pre dots ((TL.tl z).drop k) = false := by
  have ed : TL.tl (".." : Str) = dots := by decide +kernel
  have hne : TL.tl (".." : Str) ≠ [] := by rw [ed]; simp [dots]
  have hl : (".." : Str).length = 2 := by decide +kernel
  have hc : Txt.contains z ".." = decide (Txt.find z ".." ≠ -1) := by
    unfold Txt.contains Txt.find
    cases Builtin.Str.occurrences z ".." 0 z.length 1 with
    | nil => rfl
    | cons a r =>
      show true = decide (((a : Nat) : Int) ≠ -1)
      rw [eq_comm, decide_eq_true_eq]
      omega
  rcases PyProof.Rows.find_whole z ".." with ⟨h, g⟩ | ⟨i, h, g, g2⟩
  · refine .inl ⟨by rw [hc, h]; decide, fun i => ?_⟩
    have := TL.no_at hne (g i)
    rw [ed] at this
    exact this
  · refine .inr ⟨i, by rw [hc, h, decide_eq_true_eq]; omega, h, ?_, ?_, fun k hk => ?_⟩
    · have := (TL.at_iff hne i).mp g
      rw [ed] at this
      exact this
    · have := g.1
      rw [hl] at this
      exact this
    · have := TL.no_at hne (g2 k hk)
      rw [ed] at this
      exact this
theorem oV_non (o : Option Int) : decide (oV o = .non) = o.isNone := by cases o <;> rfl
theorem ok_ldue {f : Addr} {fd : FuncData} (F : Fun K "_law_due" "_law_due" s__law_due f fd) (G__law_number : Vc.FnG P w K mg base CX0 2 "_law_number" ["_law_word"] sp_lnum) : FnOk P w K mg base CX0 3 f fd ["_law_text"] sp_ldue := by
  refine F.ok sc__law_due (fun vs H Q E h => ?_) (fun cdv A outer s H vs Q E hr h => ?_)
  · obtain ⟨z, rfl, _⟩ := h
    rfl
  · obtain ⟨z, rfl, hasc, hz, k⟩ := h
    have hsz : z.length ≤ sizeLine := Nat.le_trans hz (by decide)
    refine ⟨_, (pss_cons (ps_if (pt_cmpR Xf.op_notInT pe_str (pv 0) (by rfl)) (pss_one (ps_ret (pe_lst (pa_cons (Vc.pe_callG G__law_number hr (by decide) rfl pass0 (pa_cons (pv 0) pa_nil)) (pa_cons (Vc.pe_callG G__law_number hr (by decide) rfl pass0 (pa_cons (pv 0) pa_nil)) pa_nil))))) pss_nil)
      (pss_cons (ps_set (i := 1) sc__law_due.nd rfl (Or.inl rfl) (pe_m1 PySem.F.slot_str_find PySem.F.type_str_find mt_find (pv 0) pe_str))
      (pss_cons (ps_par (i := 2) (j := 3) (by rfl) sc__law_due.nd rfl rfl (by decide) rfl rfl (pa_cons (Vc.pe_callG G__law_number hr (by decide) rfl pass0 (pa_cons (pe_slice (Vc.sl_U K) (pv 0) po_none (po_some (pv 1))) pa_nil)) (pa_cons (Vc.pe_callG G__law_number hr (by decide) rfl pass0 (pa_cons (pe_slice (Vc.sl_U K) (pv 0) (po_some (pe_op Vc.op_addU (pv 1) pe_int)) po_none) pa_nil)) pa_nil)) (by rfl))
      (pss_one (ps_ret (pe_ifExp (PW.pt (pw_and (pt_cmpR Xf.op_notU (pv 2) pe_non (nomark _)) (pw_and (pt_cmpR Xf.op_notU (pv 3) pe_non (nomark _)) (pw_and1 (pt_cmpR Vc.op_ltU (pv 2) (pv 3) (nomark _)))))) (pe_lst (pa_cons (pv 2) (pa_cons (pv 3) pa_nil))) (pe_lst (pa_cons pe_non (pa_cons pe_non pa_nil))))))))), ?_⟩
    refine Vc.v_start (σ' := [some (.str z), none, none, none]) rfl ?_
    walk_at "x"
    rcases dots_find z with ⟨hc, hp⟩ | ⟨i, hc, hf, hp, hl, hlt⟩
    · rw [hc]
      walk_at "x"
      refine ⟨z, rfl, hasc, hz, fun H1 s1 => ?_⟩
      walk_at "x"
      refine ⟨z, rfl, hasc, hz, fun H2 s2 => ?_⟩
      walk_at "x"
      refine ⟨by walk_at "sz", fun p hp2 => ?_⟩
      refine k p _ ((s1.trans s2).trans (same_new hp2)) ?_
      rw [due_no hp]
      exact upd_same
    · rw [hc]
      walk_at "x"
      refine ⟨_, _, rfl, rfl, ?_⟩
      rw [hf]
      walk_at "x"
      refine Vc.v_slS hsz ?_
      have ht : TL.tl (cutS z none (some (i : Int))) = (TL.tl z).take i := cut_to z i (by omega)
      have hd : TL.tl (cutS z (some ((i : Int) + 2)) none) = (TL.tl z).drop (i + 2) := cut_from z (i + 2) hl
      have hdl := due_yes hp (by rw [← TL.len_tl]; exact hl) hlt
      rw [← ht, ← hd] at hdl
      walk_at "x"
      refine ⟨_, rfl, fun c hc2 => hasc c (by rw [ht] at hc2; exact List.mem_of_mem_take hc2), by
        rw [TL.len_tl, ht, List.length_take, ← TL.len_tl]
        omega, fun H1 s1 => ?_⟩
      walk_at "x"
      refine Vc.v_slS hsz ?_
      walk_at "x"
      refine ⟨_, rfl, fun c hc2 => hasc c (by rw [hd] at hc2; exact List.mem_of_mem_drop hc2), by
        rw [TL.len_tl, hd, List.length_drop, ← TL.len_tl]
        omega, fun H2 s2 => ?_⟩
      revert hdl
      generalize Nu.numP (TL.tl (cutS z none (some (i : Int)))) = lo
      generalize Nu.numP (TL.tl (cutS z (some ((i : Int) + 2)) none)) = hi
      intro hdl
      have s12 := s1.trans s2
      have no : dueP (TL.tl z) = (none, none) → tLst (tCons (tC .non) (tCons (tC .non) tNil)) [some (.str z), some (.int (i : Int)), some (oV lo), some (oV hi)] H2 Q := fun e => by
        walk_at "x"
        refine ⟨by walk_at "sz", fun p hp2 => k p _ (s12.trans (same_new hp2)) ?_⟩
        rw [e]
        exact upd_same
      walk_at "x"
      rw [oV_non]
      cases lo with
      | none =>
        refine Vc.v_iteE (c := false) rfl ?_
        walk_at "x"
        exact no (by rw [hdl, if_neg (by simp)])
      | some a =>
        refine Vc.v_iteE (c := true) rfl ?_
        walk_at "x"
        rw [oV_non]
        cases hi with
        | none =>
          refine Vc.v_iteE (c := false) rfl ?_
          walk_at "x"
          exact no (by rw [hdl, if_neg (by simp)])
        | some b =>
          refine Vc.v_iteE (c := true) rfl ?_
          walk_at "x"
          refine Vc.v_ltU ?_
          walk_at "x"
          refine Vc.v_iteD (fun h5 => ?_) (fun h5 => ?_)
          · walk_at "x"
            refine ⟨by walk_at "sz", fun p hp2 => k p _ (s12.trans (same_new hp2)) ?_⟩
            rw [hdl, if_pos ⟨rfl, rfl, h5⟩]
            exact upd_same
          · exact no (by rw [hdl, if_neg (fun g => h5 g.2.2)])
end

end K03

set_option Elab.async false
set_option maxRecDepth 100000
set_option maxHeartbeats 4000000
namespace K03
open PySem L2
local macro_rules | `(tactic| walk_at "hp") => `(tactic| first | assumption | exact upd_same | (refine Vc.h_new (by assumption) ?_; walk_at "hp") | (refine Vc.h_mut (by assumption) ?_; walk_at "hp"))
local macro_rules | `(tactic| walk_at "sq") => `(tactic| first | assumption | (refine SqL.of ?_; walk_at "hp") | (refine SqT.of ?_; walk_at "hp"))
local macro_rules | `(tactic| walk_at "v1") => `(tactic| first
  | with_reducible refine Vc.v_seq ?_
  | with_reducible refine Vc.v_ret ?_
  | with_reducible refine Vc.v_retN ?_
  | with_reducible refine Vc.v_drop ?_
  | with_reducible refine Vc.v_next ?_
  | with_reducible refine Vc.v_asg ?_
  | with_reducible refine Vc.v_ifS ?_
  | ((with_reducible refine' Vc.v_name ?vv ?_); (case vv => ((conv => lhs; simp only [List.set_cons_succ, List.set_cons_zero]); first | done | exact rfl)))
  | ((with_reducible refine' Vc.v_var ?vv ?_); (case vv => exact rfl))
  | with_reducible refine Vc.v_c ?_
  | with_reducible refine Vc.v_op ?_
  | with_reducible refine Vc.v_un ?_
  | with_reducible refine Vc.v_chain ?_
  | with_reducible refine Vc.v_test ?_
  | with_reducible refine Vc.v_B ?_
  | with_reducible refine Vc.v_and ?_
  | with_reducible refine Vc.v_or ?_
  | with_reducible refine Vc.v_not ?_
  | with_reducible refine Vc.v_andV ?_
  | with_reducible refine Vc.v_orV ?_
  | with_reducible refine Vc.v_notV ?_
  | with_reducible refine Vc.v_if ?_
  | with_reducible refine Vc.v_bl ?_
  | with_reducible refine Vc.v_blP ?_
  | with_reducible refine Vc.v_cb ?_
  | with_reducible refine Vc.v_call ?_
  | with_reducible refine Vc.v_nil ?_
  | with_reducible refine Vc.v_cons ?_
  | with_reducible refine Vc.v_lst ?_
  | with_reducible refine Vc.v_tup ?_
  | with_reducible refine Vc.v_m0 ?_
  | with_reducible refine Vc.v_m1 ?_
  | with_reducible refine Vc.v_strAnd ?_
  | with_reducible refine Vc.v_sl ?_
  | with_reducible refine Vc.v_noPart ?_
  | with_reducible refine Vc.v_part ?_
  | with_reducible refine Vc.v_int ?_
  | with_reducible refine Vc.v_I0 ?_
  | with_reducible refine Vc.v_U ?_
  | with_reducible refine Vc.v_addI ?_
  | with_reducible refine Vc.v_leU ?_
  | with_reducible refine Vc.v_geU ?_
  | with_reducible refine Vc.v_gtU ?_
  | with_reducible refine Vc.v_ltU ?_
  | with_reducible refine Vc.v_ltS ?_
  | with_reducible refine Vc.v_max2 ?_
  | with_reducible refine Vc.v_min2 ?_
  | with_reducible refine Vc.v_reprB ?_
  | with_reducible refine Vc.v_intI ?_
  | with_reducible refine Vc.v_intB ?_
  | with_reducible refine Vc.v_strS ?_
  | with_reducible refine Vc.v_par ?_
  | ((with_reducible refine' Vc.v_twoS ?vv ?_); (case vv => ((conv => lhs; simp only [List.set_cons_succ, List.set_cons_zero]); first | done | exact rfl)))
  | with_reducible refine Vc.v_iteT ?_
  | with_reducible refine Vc.v_iteF ?_
  | with_reducible refine Vc.v_iteFt ?_
  | with_reducible refine Vc.v_iteTf ?_
  | with_reducible refine Vc.v_for ?_
  | with_reducible refine Vc.v_yes ?_
  | with_reducible refine Vc.v_sm0 ?_
  | with_reducible refine Vc.v_callKn ?_
  | with_reducible refine Vc.v_gSub ?_
  | with_reducible refine Vc.v_disp ?_
  | with_reducible refine Vc.v_pnil ?_
  | with_reducible refine Vc.v_pcons ?_
  | with_reducible refine Vc.v_lc ?_
  | with_reducible refine Vc.v_iList ?_
  | with_reducible refine Vc.v_iRng1 ?_
  | with_reducible refine Vc.v_iRng2 ?_
  | with_reducible refine Vc.v_iStr ?_
  | with_reducible refine Vc.v_inS ?_
  | with_reducible refine Vc.v_notInS ?_)
local macro_rules | `(tactic| walk_at "v") => `(tactic| repeat walk_at "v1")
local macro_rules | `(tactic| walk_at "sz") => `(tactic| (simp only [List.length_cons, List.length_nil, List.length_append, List.length_map, List.length_set, Vc.szE]; first | decide | omega))
local macro_rules | `(tactic| walk_at "n1") => `(tactic| first
  | with_reducible refine Vc.v_seq ?_
  | with_reducible refine Vc.v_ret ?_
  | with_reducible refine Vc.v_retN ?_
  | with_reducible refine Vc.v_drop ?_
  | with_reducible refine Vc.v_next ?_
  | with_reducible refine Vc.v_asg ?_
  | with_reducible refine Vc.v_ifS ?_
  | ((with_reducible refine' Vc.v_name ?vv ?_); (case vv => ((conv => lhs; simp only [List.set_cons_succ, List.set_cons_zero]); first | done | exact rfl)))
  | ((with_reducible refine' Vc.v_var ?vv ?_); (case vv => exact rfl))
  | with_reducible refine Vc.v_c ?_
  | with_reducible refine Vc.v_op ?_
  | with_reducible refine Vc.v_un ?_
  | with_reducible refine Vc.v_chain ?_
  | with_reducible refine Vc.v_test ?_
  | with_reducible refine Vc.v_B ?_
  | with_reducible refine Vc.v_not ?_
  | with_reducible refine Vc.v_notV ?_
  | with_reducible refine Vc.v_if ?_
  | with_reducible refine Vc.v_bl ?_
  | with_reducible refine Vc.v_blP ?_
  | with_reducible refine Vc.v_cb ?_
  | with_reducible refine Vc.v_call ?_
  | with_reducible refine Vc.v_nil ?_
  | with_reducible refine Vc.v_cons ?_
  | with_reducible refine Vc.v_lst ?_
  | with_reducible refine Vc.v_tup ?_
  | with_reducible refine Vc.v_m0 ?_
  | with_reducible refine Vc.v_m1 ?_
  | with_reducible refine Vc.v_strAnd ?_
  | with_reducible refine Vc.v_sl ?_
  | with_reducible refine Vc.v_noPart ?_
  | with_reducible refine Vc.v_part ?_
  | with_reducible refine Vc.v_int ?_
  | with_reducible refine Vc.v_I0 ?_
  | with_reducible refine Vc.v_U ?_
  | with_reducible refine Vc.v_addI ?_
  | with_reducible refine Vc.v_leU ?_
  | with_reducible refine Vc.v_geU ?_
  | with_reducible refine Vc.v_gtU ?_
  | with_reducible refine Vc.v_ltU ?_
  | with_reducible refine Vc.v_ltS ?_
  | with_reducible refine Vc.v_max2 ?_
  | with_reducible refine Vc.v_min2 ?_
  | with_reducible refine Vc.v_reprB ?_
  | with_reducible refine Vc.v_intI ?_
  | with_reducible refine Vc.v_intB ?_
  | with_reducible refine Vc.v_strS ?_
  | with_reducible refine Vc.v_par ?_
  | ((with_reducible refine' Vc.v_twoS ?vv ?_); (case vv => ((conv => lhs; simp only [List.set_cons_succ, List.set_cons_zero]); first | done | exact rfl)))
  | with_reducible refine Vc.v_iteT ?_
  | with_reducible refine Vc.v_iteF ?_
  | with_reducible refine Vc.v_iteFt ?_
  | with_reducible refine Vc.v_iteTf ?_
  | with_reducible refine Vc.v_for ?_
  | with_reducible refine Vc.v_yes ?_
  | with_reducible refine Vc.v_sm0 ?_
  | with_reducible refine Vc.v_callKn ?_
  | with_reducible refine Vc.v_gSub ?_
  | with_reducible refine Vc.v_disp ?_
  | with_reducible refine Vc.v_pnil ?_
  | with_reducible refine Vc.v_pcons ?_
  | with_reducible refine Vc.v_lc ?_
  | with_reducible refine Vc.v_iList ?_
  | with_reducible refine Vc.v_iRng1 ?_
  | with_reducible refine Vc.v_iRng2 ?_
  | with_reducible refine Vc.v_iStr ?_
  | with_reducible refine Vc.v_inS ?_
  | with_reducible refine Vc.v_notInS ?_)
local macro_rules | `(tactic| walk_at "w1") => `(tactic| first
  | with_reducible refine Ow.w_call ?_
  | with_reducible refine Ow.w_make ?_
  | with_reducible refine Ow.w_meth ?_
  | with_reducible refine Ow.w_neg ?_
  | with_reducible refine Ow.w_bin ?_
  | with_reducible refine Ow.w_makeK ?_
  | with_reducible refine Ow.w_cmeth ?_
  | with_reducible refine Ow.w_cmethK ?_
  | with_reducible refine Ow.w_prop ?_
  | with_reducible refine Ow.w_fld ?_
  | with_reducible refine Ow.w_sfld ?_
  | with_reducible refine Ow.w_xf ?_
  | with_reducible refine Ow.w_raise ?_
  | with_reducible refine Ow.w_try ?_
  | ((with_reducible refine' Ow.w_gone ?vv ?_); (case vv => ((conv => lhs; simp only [List.set_cons_succ, List.set_cons_zero]); first | done | exact rfl)))
  | with_reducible refine Ow.w_and ?_)
local macro_rules | `(tactic| walk_at "w") => `(tactic| repeat (first | walk_at "v1" | walk_at "w1"))
local macro_rules | `(tactic| walk_at "n") => `(tactic| repeat (first | walk_at "n1" | walk_at "w1"))
local macro_rules | `(tactic| walk_at "x1") => `(tactic| first
  | with_reducible refine Xf.x_joinF ?_
  | with_reducible refine Xf.x_js ?_
  | with_reducible refine Xf.x_js0 ?_
  | with_reducible refine Xf.x_fmt ?_
  | with_reducible refine Xf.x_isN ?_
  | with_reducible refine Xf.x_notN ?_
  | with_reducible refine Xf.x_inT ?_
  | with_reducible refine Xf.x_notInT ?_
  | with_reducible refine Xf.x_match ?_)
local macro_rules | `(tactic| walk_at "x") => `(tactic| repeat (first | walk_at "v1" | walk_at "w1" | walk_at "x1"))
local macro_rules | `(tactic| walk_at "y") => `(tactic| repeat (first | walk_at "n1" | walk_at "w1" | walk_at "x1"))

/-- what is read: a value whose data is d -/
def sp_read (K : PySem.W.Frag) : Sp := fun vs H Q _ => ∃ v t d, vs = [v] ∧ Kd K H v t ∧ Dp K H v d ∧ SeqAt.shaped d = true ∧ PyData.eqv d d = true ∧ d.showable = true ∧ d.hasDict = false ∧ d.shown.length ≤ sizeLine ∧ d.depth ≤ 60 ∧ (∀ z, v = .str z → z.length ≤ 100000) ∧
  ∀ p H', Same H H' → H' p = some (.lst (match v with | .str z => [oV (dueP (TL.tl z)).1, oV (dueP (TL.tl z)).2] | _ => [.non, .non])) → Q (.ref p) H'
section
variable {P : Program} {w : World} {K : PySem.W.Frag} {mg : Str → Option Value} {base : Heap} {mt : Tok} {CB CH CI CT : Addr}
theorem ok_read {f fF pF : Addr} {mc : Value} {fd : FuncData} (F : Fun K "_law_read" "_law_read" s__law_read f fd) (B : Bt mg mt CB) (T : BdK K CB) (R_Bounds : ClX.CRead K CB mc) (C_Bounds_from_text : ClX.CMet K CB mc "from_text" pF fF) (F_Bounds_from_text : Ow.Fr P w K mg base 5 fF (sp_from_text K CB CT))
    (X_InvalidText : Xs.ExT P w K mg base "InvalidText" CT ["value"]) (hTT : PySem.W.exmOne K (.ref CT) (.ref CT) = some true) : Qs.FnQ P w K mg base CX0 6 f fd ["_law_text"] (sp_read K) := by
  refine Qs.okQ F sc__law_read (fun vs H Q E h => ?_) (fun cdv A outer s H vs Q E hr gd h => ?_)
  · obtain ⟨v, t, d, rfl, _⟩ := h
    rfl
  · obtain ⟨v, ty, d, rfl, hv, dp, sh, eq, sw, nd, sz, dep, hzl, k⟩ := h
    refine ⟨_, (pss_cons (Ow.ps_tryT K rfl rfl takes0 (fun W pn xe tk po => (pss_one (ps_set (i := 1) sc__law_read.nd rfl (Or.inl rfl) (Ow.pe_cmethW (pe_glob (v := .ref _) rfl B.c_Bounds rfl) R_Bounds C_Bounds_from_text F_Bounds_from_text hr (by decide) tk (pa_cons (pv 0) pa_nil)))))
      (Xs.ClsOk.as (i := 2) sc__law_read.nd rfl rfl ⟨rfl, by decide, .inl X_InvalidText.gC⟩ (fun a oe cls d pn hz hd => (pss_one (ps_ret (pe_ifExp (PW.pt (pw_and (pt_cmpR (Ow.op_eqN K hr.units) (pe_xf X_InvalidText.xf (X_InvalidText.no _ (by simp)) hz hd (pv 2)) (pv 0) (nomark _)) (pw_and1 (pt_cmpR (Ow.op_eqN K hr.units) (pe_callB (Qs.call_reprD K hr.units gd) (by rfl) B.b_repr (by decide +kernel) (pa_cons (pe_xf X_InvalidText.xf (X_InvalidText.no _ (by simp)) hz hd (pv 2)) pa_nil)) (pe_callB (Qs.call_reprD K hr.units gd) (by rfl) B.b_repr (by decide +kernel) (pa_cons (pv 0) pa_nil)) (nomark _))))) (pe_lst (pa_cons pe_non (pa_cons pe_non pa_nil))) (pe_lst (pa_cons pe_str (pa_cons (pe_xf X_InvalidText.xf (X_InvalidText.no _ (by simp)) hz hd (pv 2)) pa_nil)))))))
      Xs.ClsOk.nil))
      (pss_one (ps_ret (pe_lst (pa_cons (Ow.pe_fldK K (pv 1) rfl) (pa_cons (Ow.pe_fldK K (pv 1) rfl) pa_nil)))))), ?_⟩
    refine Vc.v_start (σ' := [some v, none, none]) rfl ?_
    walk_at "x"
    refine ⟨v, ty, rfl, hv, fun z ez => ⟨hzl z ez, fun a b es x H' s1 hx => ?_⟩, fun hno dd H' s1 ed => ?_⟩
    · obtain ⟨dx, ex⟩ := hx.ex
      walk_at "x"
      refine ⟨_, _, _, _, _, rfl, ex, T.cls, T.nl, rfl, ?_⟩
      walk_at "x"
      refine ⟨_, _, _, _, _, rfl, ex, T.cls, T.nh, rfl, ?_⟩
      walk_at "x"
      refine ⟨by walk_at "sz", fun p hp => k p _ (s1.trans (same_new hp)) ?_⟩
      subst ez
      show _ = some (HO.lst [oV (dueP (TL.tl z)).1, oV (dueP (TL.tl z)).2])
      have e : dueP (TL.tl z) = (some a, some b) := by
        unfold dueP
        rw [es]
      rw [e]
      exact upd_same
    · refine Ow.w_hit hTT fun z hz => Ow.w_wishAs rfl ?_
      walk_at "x"
      refine ⟨rfl, dd, _, _, rfl, ed, rfl, ?_⟩
      walk_at "x"
      have dp1 := dp_mono s1 dp
      refine eqSame dp1 dp1 sh eq ?_
      walk_at "x"
      refine ⟨rfl, dd, _, _, rfl, ed, rfl, ?_⟩
      walk_at "x"
      refine ⟨_, d, rfl, dp1, sw, nd, sz, dep, ?_⟩
      walk_at "x"
      refine ⟨_, d, rfl, dp1, sw, nd, sz, dep, ?_⟩
      refine Vc.v_eqU rfl ?_
      rw [decide_eq_true rfl]
      walk_at "x"
      refine ⟨by walk_at "sz", fun p hp => k p _ (s1.trans (same_new hp)) ?_⟩
      cases v with
      | str y =>
        show _ = some (HO.lst [oV (dueP (TL.tl y)).1, oV (dueP (TL.tl y)).2])
        have e : dueP (TL.tl y) = (none, none) := by
          unfold dueP
          rw [hno y rfl]
        rw [e]
        exact upd_same
      | _ => exact upd_same
end

end K03

set_option Elab.async false
set_option maxRecDepth 100000
set_option maxHeartbeats 4000000
namespace K03
open PySem L2
local macro_rules | `(tactic| walk_at "hp") => `(tactic| first | assumption | exact upd_same | (refine Vc.h_new (by assumption) ?_; walk_at "hp") | (refine Vc.h_mut (by assumption) ?_; walk_at "hp"))
local macro_rules | `(tactic| walk_at "sq") => `(tactic| first | assumption | (refine SqL.of ?_; walk_at "hp") | (refine SqT.of ?_; walk_at "hp"))
local macro_rules | `(tactic| walk_at "v1") => `(tactic| first
  | with_reducible refine Vc.v_seq ?_
  | with_reducible refine Vc.v_ret ?_
  | with_reducible refine Vc.v_retN ?_
  | with_reducible refine Vc.v_drop ?_
  | with_reducible refine Vc.v_next ?_
  | with_reducible refine Vc.v_asg ?_
  | with_reducible refine Vc.v_ifS ?_
  | ((with_reducible refine' Vc.v_name ?vv ?_); (case vv => ((conv => lhs; simp only [List.set_cons_succ, List.set_cons_zero]); first | done | exact rfl)))
  | ((with_reducible refine' Vc.v_var ?vv ?_); (case vv => exact rfl))
  | with_reducible refine Vc.v_c ?_
  | with_reducible refine Vc.v_op ?_
  | with_reducible refine Vc.v_un ?_
  | with_reducible refine Vc.v_chain ?_
  | with_reducible refine Vc.v_test ?_
  | with_reducible refine Vc.v_B ?_
  | with_reducible refine Vc.v_and ?_
  | with_reducible refine Vc.v_or ?_
  | with_reducible refine Vc.v_not ?_
  | with_reducible refine Vc.v_andV ?_
  | with_reducible refine Vc.v_orV ?_
  | with_reducible refine Vc.v_notV ?_
  | with_reducible refine Vc.v_if ?_
  | with_reducible refine Vc.v_bl ?_
  | with_reducible refine Vc.v_blP ?_
  | with_reducible refine Vc.v_cb ?_
  | with_reducible refine Vc.v_call ?_
  | with_reducible refine Vc.v_nil ?_
  | with_reducible refine Vc.v_cons ?_
  | with_reducible refine Vc.v_lst ?_
  | with_reducible refine Vc.v_tup ?_
  | with_reducible refine Vc.v_m0 ?_
  | with_reducible refine Vc.v_m1 ?_
  | with_reducible refine Vc.v_strAnd ?_
  | with_reducible refine Vc.v_sl ?_
  | with_reducible refine Vc.v_noPart ?_
  | with_reducible refine Vc.v_part ?_
  | with_reducible refine Vc.v_int ?_
  | with_reducible refine Vc.v_I0 ?_
  | with_reducible refine Vc.v_U ?_
  | with_reducible refine Vc.v_addI ?_
  | with_reducible refine Vc.v_leU ?_
  | with_reducible refine Vc.v_geU ?_
  | with_reducible refine Vc.v_gtU ?_
  | with_reducible refine Vc.v_ltU ?_
  | with_reducible refine Vc.v_ltS ?_
  | with_reducible refine Vc.v_max2 ?_
  | with_reducible refine Vc.v_min2 ?_
  | with_reducible refine Vc.v_reprB ?_
  | with_reducible refine Vc.v_intI ?_
  | with_reducible refine Vc.v_intB ?_
  | with_reducible refine Vc.v_strS ?_
  | with_reducible refine Vc.v_par ?_
  | ((with_reducible refine' Vc.v_twoS ?vv ?_); (case vv => ((conv => lhs; simp only [List.set_cons_succ, List.set_cons_zero]); first | done | exact rfl)))
  | with_reducible refine Vc.v_iteT ?_
  | with_reducible refine Vc.v_iteF ?_
  | with_reducible refine Vc.v_iteFt ?_
  | with_reducible refine Vc.v_iteTf ?_
  | with_reducible refine Vc.v_for ?_
  | with_reducible refine Vc.v_yes ?_
  | with_reducible refine Vc.v_sm0 ?_
  | with_reducible refine Vc.v_callKn ?_
  | with_reducible refine Vc.v_gSub ?_
  | with_reducible refine Vc.v_disp ?_
  | with_reducible refine Vc.v_pnil ?_
  | with_reducible refine Vc.v_pcons ?_
  | with_reducible refine Vc.v_lc ?_
  | with_reducible refine Vc.v_iList ?_
  | with_reducible refine Vc.v_iRng1 ?_
  | with_reducible refine Vc.v_iRng2 ?_
  | with_reducible refine Vc.v_iStr ?_
  | with_reducible refine Vc.v_inS ?_
  | with_reducible refine Vc.v_notInS ?_)
local macro_rules | `(tactic| walk_at "v") => `(tactic| repeat walk_at "v1")
local macro_rules | `(tactic| walk_at "sz") => `(tactic| (simp only [List.length_cons, List.length_nil, List.length_append, List.length_map, List.length_set, Vc.szE]; first | decide | omega))
local macro_rules | `(tactic| walk_at "n1") => `(tactic| first
  | with_reducible refine Vc.v_seq ?_
  | with_reducible refine Vc.v_ret ?_
  | with_reducible refine Vc.v_retN ?_
  | with_reducible refine Vc.v_drop ?_
  | with_reducible refine Vc.v_next ?_
  | with_reducible refine Vc.v_asg ?_
  | with_reducible refine Vc.v_ifS ?_
  | ((with_reducible refine' Vc.v_name ?vv ?_); (case vv => ((conv => lhs; simp only [List.set_cons_succ, List.set_cons_zero]); first | done | exact rfl)))
  | ((with_reducible refine' Vc.v_var ?vv ?_); (case vv => exact rfl))
  | with_reducible refine Vc.v_c ?_
  | with_reducible refine Vc.v_op ?_
  | with_reducible refine Vc.v_un ?_
  | with_reducible refine Vc.v_chain ?_
  | with_reducible refine Vc.v_test ?_
  | with_reducible refine Vc.v_B ?_
  | with_reducible refine Vc.v_not ?_
  | with_reducible refine Vc.v_notV ?_
  | with_reducible refine Vc.v_if ?_
  | with_reducible refine Vc.v_bl ?_
  | with_reducible refine Vc.v_blP ?_
  | with_reducible refine Vc.v_cb ?_
  | with_reducible refine Vc.v_call ?_
  | with_reducible refine Vc.v_nil ?_
  | with_reducible refine Vc.v_cons ?_
  | with_reducible refine Vc.v_lst ?_
  | with_reducible refine Vc.v_tup ?_
  | with_reducible refine Vc.v_m0 ?_
  | with_reducible refine Vc.v_m1 ?_
  | with_reducible refine Vc.v_strAnd ?_
  | with_reducible refine Vc.v_sl ?_
  | with_reducible refine Vc.v_noPart ?_
  | with_reducible refine Vc.v_part ?_
  | with_reducible refine Vc.v_int ?_
  | with_reducible refine Vc.v_I0 ?_
  | with_reducible refine Vc.v_U ?_
  | with_reducible refine Vc.v_addI ?_
  | with_reducible refine Vc.v_leU ?_
  | with_reducible refine Vc.v_geU ?_
  | with_reducible refine Vc.v_gtU ?_
  | with_reducible refine Vc.v_ltU ?_
  | with_reducible refine Vc.v_ltS ?_
  | with_reducible refine Vc.v_max2 ?_
  | with_reducible refine Vc.v_min2 ?_
  | with_reducible refine Vc.v_reprB ?_
  | with_reducible refine Vc.v_intI ?_
  | with_reducible refine Vc.v_intB ?_
  | with_reducible refine Vc.v_strS ?_
  | with_reducible refine Vc.v_par ?_
  | ((with_reducible refine' Vc.v_twoS ?vv ?_); (case vv => ((conv => lhs; simp only [List.set_cons_succ, List.set_cons_zero]); first | done | exact rfl)))
  | with_reducible refine Vc.v_iteT ?_
  | with_reducible refine Vc.v_iteF ?_
  | with_reducible refine Vc.v_iteFt ?_
  | with_reducible refine Vc.v_iteTf ?_
  | with_reducible refine Vc.v_for ?_
  | with_reducible refine Vc.v_yes ?_
  | with_reducible refine Vc.v_sm0 ?_
  | with_reducible refine Vc.v_callKn ?_
  | with_reducible refine Vc.v_gSub ?_
  | with_reducible refine Vc.v_disp ?_
  | with_reducible refine Vc.v_pnil ?_
  | with_reducible refine Vc.v_pcons ?_
  | with_reducible refine Vc.v_lc ?_
  | with_reducible refine Vc.v_iList ?_
  | with_reducible refine Vc.v_iRng1 ?_
  | with_reducible refine Vc.v_iRng2 ?_
  | with_reducible refine Vc.v_iStr ?_
  | with_reducible refine Vc.v_inS ?_
  | with_reducible refine Vc.v_notInS ?_)
local macro_rules | `(tactic| walk_at "w1") => `(tactic| first
  | with_reducible refine Ow.w_call ?_
  | with_reducible refine Ow.w_make ?_
  | with_reducible refine Ow.w_meth ?_
  | with_reducible refine Ow.w_neg ?_
  | with_reducible refine Ow.w_bin ?_
  | with_reducible refine Ow.w_makeK ?_
  | with_reducible refine Ow.w_cmeth ?_
  | with_reducible refine Ow.w_cmethK ?_
  | with_reducible refine Ow.w_prop ?_
  | with_reducible refine Ow.w_fld ?_
  | with_reducible refine Ow.w_sfld ?_
  | with_reducible refine Ow.w_xf ?_
  | with_reducible refine Ow.w_raise ?_
  | with_reducible refine Ow.w_try ?_
  | ((with_reducible refine' Ow.w_gone ?vv ?_); (case vv => ((conv => lhs; simp only [List.set_cons_succ, List.set_cons_zero]); first | done | exact rfl)))
  | with_reducible refine Ow.w_and ?_)
local macro_rules | `(tactic| walk_at "w") => `(tactic| repeat (first | walk_at "v1" | walk_at "w1"))
local macro_rules | `(tactic| walk_at "n") => `(tactic| repeat (first | walk_at "n1" | walk_at "w1"))
local macro_rules | `(tactic| walk_at "x1") => `(tactic| first
  | with_reducible refine Xf.x_joinF ?_
  | with_reducible refine Xf.x_js ?_
  | with_reducible refine Xf.x_js0 ?_
  | with_reducible refine Xf.x_fmt ?_
  | with_reducible refine Xf.x_isN ?_
  | with_reducible refine Xf.x_notN ?_
  | with_reducible refine Xf.x_inT ?_
  | with_reducible refine Xf.x_notInT ?_
  | with_reducible refine Xf.x_match ?_)
local macro_rules | `(tactic| walk_at "x") => `(tactic| repeat (first | walk_at "v1" | walk_at "w1" | walk_at "x1"))
local macro_rules | `(tactic| walk_at "y") => `(tactic| repeat (first | walk_at "n1" | walk_at "w1" | walk_at "x1"))

theorem wr_nodot (n : Int) : 46 ∉ Nu.wrI n := by
  unfold Nu.wrI
  split
  · intro h
    rcases List.mem_cons.mp h with h | h
    · omega
    · exact TL.numL_free (.inl (by decide)) h
  · exact TL.numL_free (.inl (by decide))
theorem due_one {n : Int} (h0 : -1000000000000 ≤ n) (h1 : n ≤ 1000000000000) : dueP (Nu.wrI n) = (some n, some n) := by
  rw [due_no fun i => Bool.eq_false_iff.mpr fun h => wr_nodot n (pre_mem h), Nu.wr_back n h0 h1]
theorem due_two {a b : Int} (h0 : -1000000000000 ≤ a) (h1 : a < b) (h2 : b ≤ 1000000000000) : dueP (Nu.wrI a ++ dots ++ Nu.wrI b) = (some a, some b) := by
  have e0 : Nu.wrI a ++ dots ++ Nu.wrI b = Nu.wrI a ++ (dots ++ Nu.wrI b) := List.append_assoc _ _ _
  have hp : TL.pre dots ((Nu.wrI a ++ (dots ++ Nu.wrI b)).drop (Nu.wrI a).length) = true := by
    rw [List.drop_left]
    exact TL.pre_self dots _
  have hk : ∀ k, k < (Nu.wrI a).length → TL.pre dots ((Nu.wrI a ++ (dots ++ Nu.wrI b)).drop k) = false := fun k h => TL.free_of (s := 46) (S := [46]) (wr_nodot a) k h
  have hl : (Nu.wrI a).length + 2 ≤ (Nu.wrI a ++ (dots ++ Nu.wrI b)).length := by
    rw [List.length_append, List.length_append]
    have : dots.length = 2 := rfl
    omega
  have ht : (Nu.wrI a ++ (dots ++ Nu.wrI b)).take (Nu.wrI a).length = Nu.wrI a := List.take_left
  have hd : (Nu.wrI a ++ (dots ++ Nu.wrI b)).drop ((Nu.wrI a).length + 2) = Nu.wrI b := by
    rw [← List.drop_drop, List.drop_left]
    rfl
  rw [e0, due_yes hp hl hk, ht, hd, Nu.wr_back a h0 (by omega), Nu.wr_back b (by omega) h2]
  exact if_pos ⟨rfl, rfl, h1⟩
theorem due_txt {a b : Int} (h0 : -1000000000000 ≤ a) (h1 : a ≤ b) (h2 : b ≤ 1000000000000) : dueP (txt a b) = (some a, some b) := by
  unfold txt
  by_cases h : a = b
  · rw [if_pos h, ← h]
    exact due_one h0 (by omega)
  · rw [if_neg h]
    exact due_two h0 (by omega) h2
theorem wr_len {n : Int} (h1 : -1000000000000 ≤ n) (h2 : n ≤ 1000000000000) : 1 ≤ (Nu.wrI n).length ∧ (Nu.wrI n).length ≤ 14 := by
  have hlen : (TL.numL n.natAbs).length ≤ 13 := TL.numL_len (by decide) (by have : n.natAbs < 10000000000000 := by omega
                                                                            exact Nat.lt_of_lt_of_le this (by decide))
  have hne : (TL.numL n.natAbs).length ≠ 0 := fun z => TL.numL_ne _ (List.length_eq_zero_iff.mp z)
  unfold Nu.wrI
  split
  · rw [List.length_cons]
    omega
  · omega
theorem wr_asc (n : Int) : ∀ c ∈ Nu.wrI n, c < 128 := by
  intro c hc
  unfold Nu.wrI at hc
  have had := TL.numL_digits n.natAbs
  split at hc
  · rcases List.mem_cons.mp hc with h | h
    · omega
    · have := had c h
      omega
  · have := had c hc
    omega
theorem txt_len {a b : Int} (h0 : -1000000000000 ≤ a) (h1 : a ≤ b) (h2 : b ≤ 1000000000000) : 1 ≤ (txt a b).length ∧ (txt a b).length ≤ 30 := by
  have g1 := wr_len h0 (by omega : a ≤ 1000000000000)
  have g2 := wr_len (by omega : -1000000000000 ≤ b) h2
  have : dots.length = 2 := rfl
  unfold txt
  split
  · omega
  · rw [List.length_append, List.length_append]
    omega
theorem txt_asc (a b : Int) : ∀ c ∈ txt a b, c < 128 := by
  intro c hc
  unfold txt at hc
  split at hc
  · exact wr_asc a c hc
  · rcases List.mem_append.mp hc with h | h
    · rcases List.mem_append.mp h with h | h
      · exact wr_asc a c h
      · have : c = 46 := by simpa [dots] using h
        omega
    · exact wr_asc b c h
/-- a text of few signs, as data -/
theorem str_data {z : Str} (ha : asc z) (hl : z.length ≤ 10000) : SeqAt.shaped (.str z) = true ∧ PyData.eqv (.str z) (.str z) = true ∧ (PyData.str z).showable = true ∧ (PyData.str z).hasDict = false ∧ (PyData.str z).shown.length ≤ sizeLine ∧ (PyData.str z).depth ≤ 60 := by
  refine ⟨?_, ?_, rfl, rfl, ?_, ?_⟩
  · show (PyData.strOk z && _) = true
    have h : PyData.strOk z = true := by
      show (z.cps.all (· < 0x110000)) = true
      rw [← Array.all_toList, List.all_eq_true]
      intro c hc
      have := ha c hc
      rw [decide_eq_true_eq]
      omega
    rw [h]
    rfl
  · show (z == z) = true
    simp
  · show (reprText z).length ≤ sizeLine
    have := PySem.StrLaws.reprText_len z (fun c hc => by have := ha c hc; omega)
    rw [Vc.szE]
    omega
  · simp [PyData.depth]
def spLaw (K : PySem.W.Frag) : Sp := fun vs H Q _ => ∃ (a : Addr) (ns : List Int), vs = [.ref a] ∧ SqL K H a (ns.map V.int) ∧ ns.length ≤ 63 ∧ ∀ H', Q (.bl true) H'
section
variable {P : Program} {w : World} {K : PySem.W.Frag} {mg : Str → Option Value} {base : Heap} {mt : Tok} {CB CH CI CT : Addr}
/-- two lists [x, y] of None or ints -/
theorem ne_two {H : Hp} {p q : Addr} {a b : Option Int} {Q : VK} (h1 : H p = some (.lst [oV a, oV b])) (h2 : H q = some (.lst [oV a, oV b])) (k : Q (.bl false) H) : Vc.rNeU K (.ref p) (.ref q) H Q := by
  have d : ∀ o : Option Int, ∃ e : PyData, Dp K H (oV o) e ∧ PyData.eqv e e = true ∧ PyData.canLay0 e = true ∧ PyData.depth e = 0 := fun o => by
    cases o with
    | none => exact ⟨.none, .non, rfl, rfl, by simp [PyData.depth]⟩
    | some n => exact ⟨.int n, .int n, by show (n == n) = true; simp, rfl, by simp [PyData.depth]⟩
  obtain ⟨x, x1, x2, x3, x4⟩ := d a
  obtain ⟨y, y1, y2, y3, y4⟩ := d b
  refine neSame (d := .list [x, y]) (.lst (SqL.of h1) (.cons x1 (.cons y1 .nil))) (.lst (SqL.of h2) (.cons x1 (.cons y1 .nil))) ?_ ?_ k
  · show ((x.canLay0 && (y.canLay0 && true)) && decide (PyData.depth (.list [x, y]) ≤ 64)) = true
    rw [x3, y3]
    simp [PyData.depth, PyData.depthAll, x4, y4]
  · show (PyData.eqv x x && (PyData.eqv y y && true)) = true
    rw [x2, y2]
    rfl
def Tx (z : Str) (n : Nat) : Prop := asc z ∧ z.length ≤ n
theorem tx_add {H : Hp} {Q : VK} {x y : Str} {n m : Nat} (hx : Tx x n) (hy : Tx y m) (hs : n + m ≤ 16777216) (k : ∀ z, Tx z (n + m) → Q (.str z) H) : Vc.rAddU (.str x) (.str y) H Q := by
  refine Vc.v_addS (by rw [Vc.szE]; exact Nat.le_trans (Nat.add_le_add hx.2 hy.2) hs) (k _ ⟨fun c hc => ?_, ?_⟩)
  · rw [TL.tl_append] at hc
    rcases List.mem_append.mp hc with h | h
    · exact hx.1 c h
    · exact hy.1 c h
  · have h1 := hx.2
    have h2 := hy.2
    rw [TL.len_tl] at h1 h2
    rw [TL.len_tl, TL.tl_append, List.length_append]
    omega
theorem tx_lit {z : Str} {n : Nat} (h : (z.cps.all fun c => decide (c < 128)) = true) (hl : z.length ≤ n) : Tx z n := ⟨fun c hc => by
  rw [← Array.all_toList, List.all_eq_true] at h
  exact of_decide_eq_true (h c hc), hl⟩
theorem rd {z : Str} {H : Hp} {Q : VK} {E : XK} (ha : asc z) (hl : z.length ≤ 10000) (k : ∀ p H', Same H H' → H' p = some (.lst [oV (dueP (TL.tl z)).1, oV (dueP (TL.tl z)).2]) → Q (.ref p) H') : sp_read K [.str z] H Q E := by
  obtain ⟨h1, h2, h3, h4, h5, h6⟩ := str_data ha hl
  exact ⟨.str z, _, .str z, rfl, .str z (by rw [Vc.szE]; omega), .str z, h1, h2, h3, h4, h5, h6, fun z' e => by cases e; omega, k⟩
theorem Tx.mono {z : Str} {n m : Nat} (h : Tx z n) (l : n ≤ m) : Tx z m := ⟨h.1, Nat.le_trans h.2 l⟩
/-- data that can be shown and held against itself -/
def Dok (d : PyData) : Prop := SeqAt.shaped d = true ∧ PyData.eqv d d = true ∧ d.showable = true ∧ d.hasDict = false ∧ d.shown.length ≤ sizeLine ∧ d.depth ≤ 60
theorem rdO {v : V} {t : String} {d : PyData} {H : Hp} {Q : VK} {E : XK} (kd : Kd K H v t) (dp : Dp K H v d) (ok : Dok d) (ns : ∀ z, v ≠ .str z) (k : ∀ p H', Same H H' → H' p = some (.lst [.non, .non]) → Q (.ref p) H') : sp_read K [v] H Q E := by
  obtain ⟨h1, h2, h3, h4, h5, h6⟩ := ok
  refine ⟨v, t, d, rfl, kd, dp, h1, h2, h3, h4, h5, h6, fun z e => absurd e (ns z), fun p H' s e => k p H' s ?_⟩
  rw [e]
  cases v with
  | str z => exact absurd rfl (ns z)
  | _ => rfl
theorem odd_data {H : Hp} {T : Str} {n : Nat} {la : Int} {q1 q2 : Addr} {x : V} (tT : Tx T n) (hn : n ≤ 30) (h1 : -1000000000000 ≤ la) (h2 : la ≤ 1000000000000) (w1 : H q1 = some (.lst [.str T])) (w2 : H q2 = some (.tup [.str T])) (hx : x ∈ [V.non, V.int la, V.ref q1, V.ref q2, V.bl true]) :
    ∃ t d, Kd K H x t ∧ Dp K H x d ∧ Dok d ∧ ∀ z, x ≠ .str z := by
  obtain ⟨s1, s2, s3, s4, s5, s6⟩ := str_data tT.1 (by have := tT.2; omega)
  have cl : PyData.canLay0 (.str T) = true := by
    have z : (PyData.canLay0 (.str T) && decide ((PyData.str T).depth ≤ 64)) = true := s1
    rw [Bool.and_eq_true] at z
    exact z.1
  have lg : la.natAbs.log2 < 1920 := Vc.log2_small (by omega)
  have rl := PySem.StrLaws.reprText_len T (fun c hc => by have := tT.1 c hc; omega)
  have len := tT.2
  have short : PyData.leavesShort 10 (.str T) = true := by
    show (T.cps.toList.all fun c => decide (c < 16 ^ 8)) = true
    rw [List.all_eq_true]
    intro c hc
    have := tT.1 c hc
    rw [decide_eq_true_eq]
    omega
  have sh1 : ∀ d : PyData, PyData.leavesShort 10 d = true → d.bulk = T.length + 1 → d.shown.length ≤ sizeLine := fun d g1 g2 => by
    have := PyData.shown_le_bulk 10 (by decide) d g1
    rw [Vc.szE]
    omega
  simp only [List.mem_cons, List.not_mem_nil, or_false] at hx
  rcases hx with h | h | h | h | h <;> subst h
  · exact ⟨_, _, .non, .non, ⟨rfl, rfl, rfl, rfl, by decide +kernel, by decide +kernel⟩, fun z e => nomatch e⟩
  · refine ⟨_, _, .int la, .int la, ⟨rfl, by show (la == la) = true; simp, decide_eq_true lg, rfl, Vc.len_num lg, by simp [PyData.depth]⟩, fun z e => nomatch e⟩
  · refine ⟨_, _, .lst w1, .lst (SqL.of w1) (.cons (.str T) .nil), ⟨?_, ?_, rfl, rfl, ?_, ?_⟩, fun z e => nomatch e⟩
    · show ((PyData.canLay0 (.str T) && true) && decide (PyData.depth (.list [.str T]) ≤ 64)) = true
      rw [cl]
      simp [PyData.depth, PyData.depthAll]
    · show (PyData.eqv (.str T) (.str T) && true) = true
      rw [s2]
      rfl
    · exact sh1 _ (by show (PyData.leavesShort 10 (.str T) && true) = true; rw [short]; rfl) (by simp [PyData.bulk, PyData.bulkAll, Str.length])
    · simp [PyData.depth, PyData.depthAll]
  · refine ⟨_, _, .tup w2, .tup (SqT.of w2) (.cons (.str T) .nil), ⟨?_, ?_, rfl, rfl, ?_, ?_⟩, fun z e => nomatch e⟩
    · show ((PyData.canLay0 (.str T) && true) && decide (PyData.depth (.tuple [.str T]) ≤ 64)) = true
      rw [cl]
      simp [PyData.depth, PyData.depthAll]
    · show (PyData.eqv (.str T) (.str T) && true) = true
      rw [s2]
      rfl
    · exact sh1 _ (by show (PyData.leavesShort 10 (.str T) && true) = true; rw [short]; rfl) (by simp [PyData.bulk, PyData.bulkAll, Str.length])
    · simp [PyData.depth, PyData.depthAll]
  · exact ⟨_, _, .bl true, .bl true, ⟨rfl, rfl, rfl, rfl, by decide +kernel, by decide +kernel⟩, fun z e => nomatch e⟩
theorem ok_law {f fI fS : Addr} {fd : FuncData} (F : Fun K "law" "law" s_law f fd) (B : Bt mg mt CB) (M_Bounds : Mk K CB fI) (F_Bounds : Ow.Fr P w K mg base 3 fI (sp_binit K CB CH CI)) (S_Bounds___str__ : Ow.Spec K CB "__str__" fS) (F_Bounds___str__ : Ow.Fr P w K mg base 1 fS (sp_bstr CB))
    (G__law_cell : Vc.FnG P w K mg base CX0 1 "_law_cell" ["_law_script", "_law_k"] (sp_cell K)) (G__law_box : Vc.FnG P w K mg base CX0 1 "_law_box" ["_law_cell_here"] sp_box) (G__law_take : Vc.FnG P w K mg base CX0 1 "_law_take" ["_law_box_here", "_law_many"] sp_take)
    (G__law_written : Vc.FnG P w K mg base CX0 1 "_law_written" ["_law_number_here"] sp_written) (G__law_due : Vc.FnG P w K mg base CX0 3 "_law_due" ["_law_text"] sp_ldue) (G__law_read : Qs.FnGQ P w K mg base CX0 6 "_law_read" ["_law_text"] (sp_read K)) : Qs.FnQ P w K mg base CX0 8 f fd ["_law_script"] (spLaw K) := by
  refine Qs.okQ F sc_law (fun vs H Q E h => ?_) (fun cdv A outer s H vs Q E hr gd h => ?_)
  · obtain ⟨a, ns, rfl, _⟩ := h
    rfl
  · obtain ⟨a, ns, rfl, hS, hlen, k⟩ := h
    refine ⟨_, (pss_cons (ps_for PassesOwn.never rfl (pi_range1 rfl B.b_range (pa_cons (pe_callB (Vc.call_maxU K rfl) (by rfl) B.b_max (by decide +kernel) (pa_cons pe_int (pa_cons (pe_callB (Vc.call_minU K rfl) (by rfl) B.b_min (by decide +kernel) (pa_cons pe_int (pa_cons (pe_callB (Vc.call_lenU K) (by rfl) B.b_len (by decide +kernel) (pa_cons (pv 0) pa_nil)) pa_nil))) pa_nil))) pa_nil)) (pg_name (i := 1) sc_law.nd rfl (Or.inl rfl))
      (pss_cons (ps_set (i := 2) sc_law.nd rfl (Or.inl rfl) (Vc.pe_callG G__law_box hr (by decide) rfl pass0 (pa_cons (Vc.pe_callG G__law_cell hr (by decide) rfl pass0 (pa_cons (pv 0) (pa_cons (pv 1) pa_nil))) pa_nil)))
      (pss_cons (ps_set (i := 3) sc_law.nd rfl (Or.inl rfl) (pe_lst (pa_cons pe_int (pa_cons (pe_op op_pow pe_int pe_int) (pa_cons (pe_un un_neg (pe_op op_pow pe_int pe_int)) (pa_cons (pe_op op_sub (Vc.pe_callG G__law_take hr (by decide) rfl pass0 (pa_cons (pv 2) (pa_cons pe_int pa_nil))) pe_int) (pa_cons (Vc.pe_callG G__law_take hr (by decide) rfl pass0 (pa_cons (pv 2) (pa_cons (pe_op op_pow pe_int pe_int) pa_nil))) (pa_cons (pe_un un_neg (Vc.pe_callG G__law_take hr (by decide) rfl pass0 (pa_cons (pv 2) (pa_cons (pe_op op_pow pe_int pe_int) pa_nil)))) pa_nil))))))))
      (pss_cons (ps_par (i := 4) (j := 5) (by rfl) sc_law.nd rfl rfl (by decide) rfl rfl (pa_cons (pe_ix (Vc.ix_U K) (pv 3) (Vc.pe_callG G__law_take hr (by decide) rfl pass0 (pa_cons (pv 2) (pa_cons pe_int pa_nil))) (fun _ _ => rfl)) (pa_cons (pe_ix (Vc.ix_U K) (pv 3) (Vc.pe_callG G__law_take hr (by decide) rfl pass0 (pa_cons (pv 2) (pa_cons pe_int pa_nil))) (fun _ _ => rfl)) pa_nil)) (by rfl))
      (pss_cons (ps_par (i := 4) (j := 5) (by rfl) sc_law.nd rfl rfl (by decide) rfl rfl (pa_cons (pe_callB (Vc.call_minU K rfl) (by rfl) B.b_min (by decide +kernel) (pa_cons (pv 4) (pa_cons (pv 5) pa_nil))) (pa_cons (pe_callB (Vc.call_maxU K rfl) (by rfl) B.b_max (by decide +kernel) (pa_cons (pv 4) (pa_cons (pv 5) pa_nil))) pa_nil)) (by rfl))
      (pss_cons (ps_set (i := 6) sc_law.nd rfl (Or.inl rfl) (pe_ifExp (pt_cmpR (Vc.op_eqU K hr) (pv 4) (pv 5) (nomark _)) (Vc.pe_callG G__law_written hr (by decide) rfl pass0 (pa_cons (pv 4) pa_nil)) (pe_op Vc.op_addU (pe_op Vc.op_addU (Vc.pe_callG G__law_written hr (by decide) rfl pass0 (pa_cons (pv 4) pa_nil)) pe_str) (Vc.pe_callG G__law_written hr (by decide) rfl pass0 (pa_cons (pv 5) pa_nil)))))
      (pss_cons (ps_if (PW.pt (pw_or (pt_cmpR (Vc.op_neU K hr) (pe_callTy (Xf.call_strO S_Bounds___str__ F_Bounds___str__ hr (by decide)) (by rfl) B.b_str (by decide +kernel) (pa_cons (Ow.pe_makeW M_Bounds F_Bounds B.c_Bounds hr (by decide) rfl takes0 (pa_cons (pv 4) (pa_cons (pv 5) pa_nil))) pa_nil)) (pv 6) (nomark _)) (pw_or (pt_cmpR (Vc.op_neU K hr) (Qs.pe_callQ G__law_read hr gd (by decide) rfl pass0 (pa_cons (pv 6) pa_nil)) (pe_lst (pa_cons (pv 4) (pa_cons (pv 5) pa_nil))) (nomark _)) (pw_or1 (pt_cmpR (Vc.op_neU K hr) (Qs.pe_callQ G__law_read hr gd (by decide) rfl pass0 (pa_cons (Vc.pe_callG G__law_written hr (by decide) rfl pass0 (pa_cons (pv 4) pa_nil)) pa_nil)) (pe_lst (pa_cons (pv 4) (pa_cons (pv 4) pa_nil))) (nomark _)))))) (pss_one (ps_ret pe_bl)) pss_nil)
      (pss_cons (ps_par (i := 7) (j := 8) (by rfl) sc_law.nd rfl rfl (by decide) rfl rfl (pa_cons (Vc.pe_callG G__law_take hr (by decide) rfl pass0 (pa_cons (pv 2) (pa_cons (pe_callB (Vc.call_lenU K) (by rfl) B.b_len (by decide +kernel) (pa_cons (pv 6) pa_nil)) pa_nil))) (pa_cons (Vc.pe_callG G__law_take hr (by decide) rfl pass0 (pa_cons (pv 2) (pa_cons pe_int pa_nil))) pa_nil)) (by rfl))
      (pss_cons (ps_set (i := 9) sc_law.nd rfl (Or.inl rfl) (pe_ix (Vc.ix_U K) (pe_lst (pa_cons pe_str (pa_cons (pe_op Vc.op_mulU (pe_ix (Vc.ix_U K) (pv 6) (pv 7) (fun _ _ => rfl)) pe_int) (pa_cons pe_str (pa_cons pe_str (pa_cons pe_str (pa_cons pe_str (pa_cons pe_str (pa_cons pe_str pa_nil))))))))) (pv 8) (fun _ _ => rfl)))
      (pss_cons (ps_set (i := 10) sc_law.nd rfl (Or.inl rfl) (pe_op Vc.op_addU (pe_op Vc.op_addU (pe_slice (Vc.sl_U K) (pv 6) po_none (po_some (pv 7))) (pv 9)) (pe_slice (Vc.sl_U K) (pv 6) (po_some (pe_op Vc.op_addU (pv 7) (pe_callTy Vc.call_intU (by rfl) B.b_int (by decide +kernel) (pa_cons (pe_or (pe_cmpR (Vc.op_eqU K hr) (Vc.pe_callG G__law_take hr (by decide) rfl pass0 (pa_cons (pv 2) (pa_cons pe_int pa_nil))) pe_int (nomark _)) (pe_one (pe_cmpR Vc.op_ltU (pv 8) pe_int (nomark _)))) pa_nil)))) po_none)))
      (pss_cons (ps_set (i := 11) sc_law.nd rfl (Or.inl rfl) (pe_lst (pa_cons (pv 10) (pa_cons (pe_op Vc.op_addU (pv 10) pe_str) (pa_cons (pe_op Vc.op_addU pe_str (pv 10)) (pa_cons (pe_op Vc.op_addU (pv 6) pe_str) (pa_cons (pe_op Vc.op_addU (pe_op Vc.op_addU (Vc.pe_callG G__law_written hr (by decide) rfl pass0 (pa_cons (pv 4) pa_nil)) pe_str) (Vc.pe_callG G__law_written hr (by decide) rfl pass0 (pa_cons (pv 4) pa_nil))) (pa_cons (pe_op Vc.op_addU (pv 6) pe_str) pa_nil))))))))
      (pss_cons (ps_set (i := 11) sc_law.nd rfl (Or.inl rfl) (pe_op Vc.op_addU (pv 11) (pe_lst (pa_cons pe_str (pa_cons pe_str (pa_cons pe_str (pa_cons pe_str (pa_cons (pe_callTy Vc.call_strU (by rfl) B.b_str (by decide +kernel) (pa_cons (pe_op Vc.op_addU (pe_op op_pow pe_int pe_int) pe_int) pa_nil)) (pa_cons (pe_op Vc.op_mulU pe_str pe_int) (pa_cons (pe_m1 PySem.F.slot_str_join PySem.F.type_str_join (Vc.mt_joinK K) pe_str (pe_lst (pa_cons (pv 6) (pa_cons (pv 6) pa_nil)))) pa_nil))))))))))
      (pss_cons (ps_for PassesOwn.never rfl (Vc.pi_listK K (pe_op Vc.op_addU (pv 11) (pe_lst (pa_cons (pe_op Vc.op_addU (pe_op Vc.op_addU (Vc.pe_callG G__law_written hr (by decide) rfl pass0 (pa_cons (pv 5) pa_nil)) pe_str) (Vc.pe_callG G__law_written hr (by decide) rfl pass0 (pa_cons (pv 4) pa_nil))) pa_nil)))) (pg_name (i := 12) sc_law.nd rfl (Or.inl rfl))
      (pss_one (ps_if (pt_cmpR (Vc.op_neU K hr) (Qs.pe_callQ G__law_read hr gd (by decide) rfl pass0 (pa_cons (pv 12) pa_nil)) (Vc.pe_callG G__law_due hr (by decide) rfl pass0 (pa_cons (pv 12) pa_nil)) (nomark _)) (pss_one (ps_ret pe_bl)) pss_nil)))
      (pss_one (ps_for PassesOwn.never rfl (Vc.pi_listK K (pe_lst (pa_cons pe_non (pa_cons (pv 4) (pa_cons (pe_lst (pa_cons (pv 6) pa_nil)) (pa_cons (pe_tup (pa_cons (pv 6) pa_nil)) (pa_cons pe_bl pa_nil))))))) (pg_name (i := 12) sc_law.nd rfl (Or.inl rfl))
      (pss_one (ps_if (pt_cmpR (Vc.op_neU K hr) (Qs.pe_callQ G__law_read hr gd (by decide) rfl pass0 (pa_cons (pv 12) pa_nil)) (pe_lst (pa_cons pe_non (pa_cons pe_non pa_nil))) (nomark _)) (pss_one (ps_ret pe_bl)) pss_nil)))))))))))))))))
      (pss_one (ps_ret pe_bl))), ?_⟩
    refine Vc.v_start (σ' := [some (.ref a), none, none, none, none, none, none, none, none, none, none, none, none]) rfl ?_
    walk_at "x"
    refine Vc.v_lenL hS ?_
    walk_at "x"
    generalize hN : (if (if ((ns.map V.int).length : Int) < 30 then ((ns.map V.int).length : Int) else 30) > 2 then (if ((ns.map V.int).length : Int) < 30 then ((ns.map V.int).length : Int) else 30) else 2) = N
    have hN1 : 0 ≤ N ∧ N ≤ 1000 := by
      rw [List.length_map] at hN
      split at hN <;> split at hN <;> omega
    refine Vc.e_forR1 ⟨hN1.1, by omega⟩ (fun i σ H' => (∃ x1 x2 x3 x4 x5 x6 x7 x8 x9 x10 x11 x12 : Option V, σ = [some (.ref a), x1, x2, x3, x4, x5, x6, x7, x8, x9, x10, x11, x12]) ∧ SqL K H' a (ns.map V.int)) ⟨⟨_, _, _, _, _, _, _, _, _, _, _, _, rfl⟩, hS⟩ ?_ ?_
    · rintro i σ H0 hi ⟨⟨x1, x2, x3, x4, x5, x6, x7, x8, x9, x10, x11, x12, rfl⟩, hs⟩
      walk_at "x"
      refine ⟨a, _, ns, rfl, hs, by omega, by omega, fun z => ?_⟩
      walk_at "x"
      refine ⟨z, rfl, fun b H1 hb0 hB0 s1 => ?_⟩
      walk_at "x"
      refine Vc.v_powc (z := 1000000000000) (by decide) (by decide) (by decide) (by decide) ?_
      walk_at "x"
      refine Vc.v_powc (z := 1000000000000) (by decide) (by decide) (by decide) (by decide) ?_
      walk_at "x"
      refine ⟨b, 21, 0, rfl, hB0, by decide, by decide, by decide, fun d1 H2 d1a d1b hB1 k1 => ?_⟩
      walk_at "x"
      refine Vc.v_powc (z := 1000000000000) (by decide) (by decide) (by decide) (by decide) ?_
      walk_at "x"
      refine ⟨b, 1000000000000, _, rfl, hB1, by decide, by decide, by decide, fun d2 H3 d2a d2b hB2 k2 => ?_⟩
      walk_at "x"
      refine Vc.v_powc (z := 1000000000000) (by decide) (by decide) (by decide) (by decide) ?_
      walk_at "x"
      refine ⟨b, 1000000000000, _, rfl, hB2, by decide, by decide, by decide, fun d3 H4 d3a d3b hB3 k3 => ?_⟩
      walk_at "x"
      refine ⟨by walk_at "sz", fun p1 hp1 => ?_⟩
      walk_at "x"
      have kA : Vc.But b H0 H4 := (((Vc.But.of s1).trans k1).trans k2).trans k3
      have pick : ∀ d : Int, 0 ≤ d → d < 6 → ∃ n, atI [V.int 0, V.int 1000000000000, V.int (-1000000000000), V.int (d1 - 10), V.int d2, V.int (-d3)] d = some (.int n) ∧ -1000000000000 ≤ n ∧ n ≤ 1000000000000 := fun d h0 h1 => by
        rcases (by omega : d = 0 ∨ d = 1 ∨ d = 2 ∨ d = 3 ∨ d = 4 ∨ d = 5) with h | h | h | h | h | h <;> subst h
        · exact ⟨_, rfl, by decide, by decide⟩
        · exact ⟨_, rfl, by decide, by decide⟩
        · exact ⟨_, rfl, by decide, by decide⟩
        · exact ⟨_, rfl, by omega, by omega⟩
        · exact ⟨_, rfl, by omega, by omega⟩
        · exact ⟨_, rfl, by omega, by omega⟩
      refine ⟨b, 6, _, rfl, hB3.mono (same_new hp1), by decide, by decide, by decide, fun d4 H5 d4a d4b hB4 k4 => ?_⟩
      have e5 : H5 p1 = _ := k4.get (hB3.ne hp1) upd_same
      obtain ⟨m1, hm1, m1a, m1b⟩ := pick d4 d4a d4b
      refine Vc.v_ixL (SqL.of e5) hm1 ?_
      walk_at "x"
      refine ⟨b, 6, _, rfl, hB4, by decide, by decide, by decide, fun d5 H6 d5a d5b hB5 k5 => ?_⟩
      have e6 : H6 p1 = _ := k5.get (hB3.ne hp1) e5
      obtain ⟨m2, hm2, m2a, m2b⟩ := pick d5 d5a d5b
      refine Vc.v_ixL (SqL.of e6) hm2 ?_
      walk_at "x"
      have kB : Vc.But b H0 H6 := ((kA.trans (Vc.But.of (same_new hp1))).trans k4).trans k5
      generalize hla : (if m2 < m1 then m2 else m1) = la
      generalize hlb : (if m2 > m1 then m2 else m1) = lb
      have hl1 : -1000000000000 ≤ la ∧ la ≤ lb ∧ lb ≤ 1000000000000 := by
        rw [← hla, ← hlb]
        split <;> split <;> omega
      have ed : (".." : Str) = SX.S dots := by decide +kernel
      have hdl : dots.length = 2 := rfl
      have wa := wr_len hl1.1 (by omega : la ≤ 1000000000000)
      have wb := wr_len (by omega : -1000000000000 ≤ lb) hl1.2.2
      have hTl := txt_len hl1.1 hl1.2.1 hl1.2.2
      have hTa : asc (SX.S (txt la lb)) := txt_asc la lb
      refine Vc.v_eqU rfl ?_
      walk_at "x"
      refine' Vc.v_iteD (fun h1 => ?brA) (fun h1 => ?brB)
      case' brA =>
        walk_at "x"
        refine ⟨la, rfl, by omega, by omega, ?_⟩
        have eT : Nu.wrI la = txt la lb := (if_pos (V.int.inj h1)).symm
        rw [eT]
      case' brB =>
        walk_at "x"
        refine ⟨la, rfl, by omega, by omega, ?_⟩
        walk_at "x"
        have e1 : SX.S (Nu.wrI la) ++ (".." : Str) = SX.S (Nu.wrI la ++ dots) := by rw [ed, SX.S_cat]
        refine Vc.v_addS (by rw [ed, SX.S_len, SX.S_len, Vc.szE]; omega) ?_
        rw [e1]
        walk_at "x"
        refine ⟨lb, rfl, by omega, by omega, ?_⟩
        refine Vc.v_addS (by rw [SX.S_len, SX.S_len, List.length_append, Vc.szE]; omega) ?_
        have e2 : SX.S (Nu.wrI la ++ dots) ++ SX.S (Nu.wrI lb) = SX.S (txt la lb) := by
          rw [SX.S_cat]
          have : txt la lb = Nu.wrI la ++ dots ++ Nu.wrI lb := if_neg (fun z => h1 (by rw [z]))
          rw [this]
        rw [e2]
      all_goals (
        walk_at "x"
        refine e_mkB1 hl1.1 hl1.2.1 hl1.2.2 fun x H7 s7 hx => ?_
        obtain ⟨dx, ex⟩ := hx.ex
        walk_at "x"
        refine ⟨x, dx, _, rfl, ex, x, la, lb, rfl, hx, ⟨_, rfl⟩, ?_⟩
        walk_at "x"
        refine neStr ?_
        walk_at "x"
        refine rd hTa (by rw [SX.S_len]; omega) fun p2 H8 s8 e8 => ?_
        walk_at "x"
        refine ⟨by walk_at "sz", fun p3 hp3 => ?_⟩
        rw [TL.tl_mk, due_txt hl1.1 hl1.2.1 hl1.2.2] at e8
        refine ne_two (a := some la) (b := some lb) (Vc.h_new hp3 e8) upd_same ?_
        walk_at "x"
        refine ⟨la, rfl, by omega, by omega, ?_⟩
        walk_at "x"
        refine rd (wr_asc la) (by rw [SX.S_len]; omega) fun p4 H9 s9 e9 => ?_
        walk_at "x"
        refine ⟨by walk_at "sz", fun p5 hp5 => ?_⟩
        rw [TL.tl_mk, due_one hl1.1 (by omega)] at e9
        refine ne_two (a := some la) (b := some la) (Vc.h_new hp5 e9) upd_same ?_
        have sC : Same H6 (upd H9 p5 (.lst [.int la, .int la])) := ((s7.trans s8).trans (same_new hp3)).trans (s9.trans (same_new hp5))
        generalize upd H9 p5 (.lst [.int la, .int la]) = H10 at sC ⊢
        have hB6 := hB5.mono sC
        walk_at "x"
        refine Vc.v_lenS (by rw [SX.S_len, Vc.szE]; omega) ?_
        walk_at "x"
        clear e8 e9 ex hx
        generalize txt la lb = T at hTl hTa ⊢
        rw [SX.S_len]
        have hTs : (SX.S T).length ≤ sizeLine := by
          rw [SX.S_len, Vc.szE]
          omega
        refine ⟨b, (T.length : Int), _, rfl, hB6, by decide, by omega, by omega, fun d6 H11 d6a d6b hB7 k6 => ?_⟩
        walk_at "x"
        refine ⟨b, 8, _, rfl, hB7, by decide, by decide, by decide, fun d7 H12 d7a d7b hB8 k7 => ?_⟩
        walk_at "x"
        obtain ⟨hx6, hat6⟩ := Vc.atI_of (xs := T) (i := d6) d6a d6b
        have hc6 : T[d6.toNat] < 128 := hTa _ (List.getElem_mem hx6)
        generalize T[d6.toNat] = c6 at hat6 hc6
        refine Vc.v_ixS hTs (c := c6) hat6 ?_
        walk_at "x"
        refine Vc.v_mulS (by decide) (by decide) (by show 1 ≤ 1000; decide) ?_
        walk_at "x"
        refine ⟨by walk_at "sz", fun p6 hp6 => ?_⟩
        walk_at "x"
        have hm2 : (Txt.mul ⟨#[c6]⟩ 2).cps.toList = [c6, c6] := PyProof.Rows.mul_one_list c6 2
        obtain ⟨sg, hsg, hsa, hsl⟩ := Vc.atI_strs (L := ["", Txt.mul ⟨#[c6]⟩ 2, "0", "-", ".", " ", "+", "9"]) (i := d7) (P := fun s => asc s ∧ s.length ≤ 2) d7a d7b (by
          have h3 : ∀ s ∈ (["", "0", "-", ".", " ", "+", "9"] : List Str), (∀ c ∈ s.cps.toList, c < 128) ∧ s.length ≤ 2 := by decide +kernel
          intro s hs
          simp only [List.mem_cons, List.not_mem_nil, or_false] at hs
          rcases hs with h | h | h | h | h | h | h | h
          · rw [h]; exact h3 _ (by simp)
          · rw [h]
            refine ⟨fun c hc => ?_, by rw [TL.len_tl]; show (Txt.mul ⟨#[c6]⟩ 2).cps.toList.length ≤ 2; rw [hm2]; exact Nat.le_refl 2⟩
            have hc' : c ∈ (Txt.mul ⟨#[c6]⟩ 2).cps.toList := hc
            rw [hm2] at hc'
            simp only [List.mem_cons, List.not_mem_nil, or_false, or_self] at hc'
            omega
          all_goals (rw [h]; exact h3 _ (by simp)))
        refine Vc.v_ixL (SqL.of upd_same) hsg ?_
        walk_at "x"
        refine Vc.v_slS hTs ?_
        have cl : ∀ lo hi, (cutS (SX.S T) lo hi).length ≤ 30 := fun lo hi => Nat.le_trans (cutS_length _ _ _) (by rw [SX.S_len]; omega)
        have ca : ∀ lo hi, asc (cutS (SX.S T) lo hi) := fun lo hi c hc => hTa c (Vc.tl_cut _ lo hi c hc)
        walk_at "x"
        refine Vc.v_addS (Nat.le_trans (Nat.add_le_add (cl _ _) hsl) (by rw [Vc.szE]; decide)) ?_
        walk_at "x"
        refine ⟨b, 2, _, rfl, hB8.mono (same_new hp6), by decide, by decide, by decide, fun d8 H13 d8a d8b hB9 k8 => ?_⟩
        have kC : Vc.But b H0 H13 := ((((kB.trans (Vc.But.of sC)).trans k6).trans k7).trans (Vc.But.of (same_new hp6))).trans k8
        refine Vc.v_eqU rfl ?_
        walk_at "x"
        have oda : ∀ lo hi lo' hi', asc (cutS (SX.S T) lo hi ++ sg ++ cutS (SX.S T) lo' hi') ∧ (cutS (SX.S T) lo hi ++ sg ++ cutS (SX.S T) lo' hi').length ≤ 100 := fun lo hi lo' hi' => by
          refine ⟨fun c hc => ?_, ?_⟩
          · rw [TL.tl_append, TL.tl_append] at hc
            rcases List.mem_append.mp hc with h | h
            · rcases List.mem_append.mp h with h | h
              · exact ca _ _ c h
              · exact hsa c h
            · exact ca _ _ c h
          · have h1 := cl lo hi
            have h2 := cl lo' hi'
            rw [TL.len_tl] at h1 h2 hsl
            rw [TL.len_tl, TL.tl_append, TL.tl_append, List.length_append, List.length_append]
            omega
        refine Vc.v_iteD (fun h9 => ?_) (fun h9 => ?_)
        all_goals (
          walk_at "x"
          refine Vc.v_slS hTs ?_
          have o1 : ∀ lo hi, (cutS (SX.S T) lo hi ++ sg).length ≤ 40 := fun lo hi => by
            have h1 := cl lo hi
            rw [TL.len_tl] at h1 hsl
            rw [TL.len_tl, TL.tl_append, List.length_append]
            omega
          refine Vc.v_addS (Nat.le_trans (Nat.add_le_add (o1 _ _) (cl _ _)) (by rw [Vc.szE]; decide)) ?_
          have od1 := oda none (some d6)
          generalize hod : cutS (SX.S T) none (some d6) ++ sg ++ cutS (SX.S T) _ none = od
          have oda1 : asc od ∧ od.length ≤ 100 := hod ▸ od1 _ _
          clear hod od1
          walk_at "x"
          have tT : Tx (SX.S T) 30 := ⟨hTa, by rw [SX.S_len]; omega⟩
          have tA : Tx (SX.S (Nu.wrI la)) 14 := ⟨wr_asc la, by rw [SX.S_len]; omega⟩
          have tB : Tx (SX.S (Nu.wrI lb)) 14 := ⟨wr_asc lb, by rw [SX.S_len]; omega⟩
          have tO : Tx od 100 := oda1
          have t0 : Tx ("0" : Str) 1 := tx_lit (by decide +kernel) (by decide +kernel)
          have tn : Tx ("\n" : Str) 1 := tx_lit (by decide +kernel) (by decide +kernel)
          have td : Tx (".." : Str) 2 := tx_lit (by decide +kernel) (by decide +kernel)
          refine tx_add tO t0 (by decide) fun z1 tz1 => ?_
          walk_at "x"
          refine tx_add t0 tO (by decide) fun z2 tz2 => ?_
          walk_at "x"
          refine tx_add tT tn (by decide) fun z3 tz3 => ?_
          walk_at "x"
          refine ⟨la, rfl, by omega, by omega, ?_⟩
          walk_at "x"
          refine tx_add tA td (by decide) fun z4 tz4 => ?_
          walk_at "x"
          refine ⟨la, rfl, by omega, by omega, ?_⟩
          refine tx_add tz4 tA (by decide) fun z5 tz5 => ?_
          walk_at "x"
          refine tx_add tT td (by decide) fun z6 tz6 => ?_
          walk_at "x"
          refine ⟨by walk_at "sz", fun p7 hp7 => ?_⟩
          walk_at "x"
          refine Vc.v_powc (z := 1000000000000) (by decide) (by decide) (by decide) (by decide) ?_
          walk_at "x"
          refine Vc.v_strI (by decide +kernel) ?_
          have ts : Tx (Str.ofString (toString ((1000000000000 : Int) + 1))) 20 := tx_lit (by decide +kernel) (by decide +kernel)
          generalize Str.ofString (toString ((1000000000000 : Int) + 1)) = zs at ts ⊢
          walk_at "x"
          refine Vc.v_mulS (by decide) (by decide) (by decide +kernel) ?_
          have tm : Tx (Txt.mul "1" 5000) 5000 := by
            have e1 : ("1" : Str) = ⟨#[49]⟩ := by decide +kernel
            have e2 := PyProof.Rows.mul_one_list 49 5000
            rw [e1]
            refine ⟨fun c hc => ?_, ?_⟩
            · have hc' : c ∈ (Txt.mul ⟨#[49]⟩ 5000).cps.toList := hc
              rw [e2] at hc'
              have := List.eq_of_mem_replicate hc'
              omega
            · rw [TL.len_tl]
              show (Txt.mul ⟨#[49]⟩ 5000).cps.toList.length ≤ 5000
              rw [e2, List.length_replicate]
              exact Nat.le_refl _
          generalize Txt.mul "1" 5000 = zm at tm ⊢
          walk_at "x"
          refine ⟨by walk_at "sz", fun p8 hp8 => ?_⟩
          refine ⟨"..", p8, [SX.S T, SX.S T], rfl, rfl, .inl (SqL.of upd_same), ?_, ?_⟩
          · show ([(SX.S T).length, (SX.S T).length].sum + 2 * (".." : Str).length) ≤ 16777216
            rw [ed, SX.S_len, SX.S_len]
            simp
            omega
          have tj : Tx (Txt.join ".." [SX.S T, SX.S T]) 100 := by
            have e := SX.join_S dots [T, T]
            have e2 : TL.joinL dots [T, T] = T ++ (dots ++ T) := by simp [TL.joinL]
            rw [ed]
            show Tx (Txt.join (SX.S dots) (List.map SX.S [T, T])) 100
            rw [e, e2]
            refine ⟨fun c hc => ?_, by rw [SX.S_len, List.length_append, List.length_append]; omega⟩
            have hc' : c ∈ T ++ (dots ++ T) := hc
            rcases List.mem_append.mp hc' with h | h
            · exact hTa c h
            · rcases List.mem_append.mp h with h | h
              · have : c = 46 := by simpa [dots] using h
                omega
              · exact hTa c h
          generalize Txt.join ".." [SX.S T, SX.S T] = zj at tj ⊢
          walk_at "x"
          refine ⟨by walk_at "sz", fun p9 hp9 => ?_⟩
          refine Vc.v_addL (xs := [V.str od, V.str z1, V.str z2, V.str z3, V.str z5, V.str z6]) (Vc.h_new hp9 (Vc.h_new hp8 upd_same)) upd_same (by rw [Vc.szE]; simp) fun p10 hp10 => ?_
          walk_at "x"
          refine ⟨lb, rfl, by omega, by omega, ?_⟩
          walk_at "x"
          refine tx_add tB td (by decide) fun z7 tz7 => ?_
          walk_at "x"
          refine ⟨la, rfl, by omega, by omega, ?_⟩
          refine tx_add tz7 tA (by decide) fun z8 tz8 => ?_
          walk_at "x"
          refine ⟨by walk_at "sz", fun p11 hp11 => ?_⟩
          refine Vc.v_addL (Vc.h_new hp11 upd_same) upd_same (by rw [Vc.szE]; simp) fun p12 hp12 => ?_
          obtain ⟨XS, hXS⟩ : ∃ XS, XS = ([V.str od, V.str z1, V.str z2, V.str z3, V.str z5, V.str z6] ++ [V.str "", V.str "-", V.str "-0", V.str "..", V.str zs, V.str zm, V.str zj]) ++ [V.str z8] := ⟨_, rfl⟩
          rw [← hXS]
          have sD := ((((((same_new hp7).trans (same_new hp8)).trans (same_new hp9)).trans (same_new hp10)).trans (same_new hp11)).trans (same_new (o := HO.lst XS) hp12))
          have e12 : ∀ Hq : Hp, SqL K (upd Hq p12 (HO.lst XS)) p12 XS := fun Hq => SqL.of upd_same
          have hall : ∀ x ∈ XS, ∃ z, x = V.str z ∧ Tx z 6000 := by
            intro x hx
            rw [hXS] at hx
            simp only [List.cons_append, List.nil_append, List.mem_cons, List.not_mem_nil, or_false] at hx
            rcases hx with h | h | h | h | h | h | h | h | h | h | h | h | h | h
            · exact ⟨_, h, tO.mono (by decide)⟩
            · exact ⟨_, h, tz1.mono (by decide)⟩
            · exact ⟨_, h, tz2.mono (by decide)⟩
            · exact ⟨_, h, tz3.mono (by decide)⟩
            · exact ⟨_, h, tz5.mono (by decide)⟩
            · exact ⟨_, h, tz6.mono (by decide)⟩
            · exact ⟨_, h, tx_lit (by decide +kernel) (by decide +kernel)⟩
            · exact ⟨_, h, tx_lit (by decide +kernel) (by decide +kernel)⟩
            · exact ⟨_, h, tx_lit (by decide +kernel) (by decide +kernel)⟩
            · exact ⟨_, h, td.mono (by decide)⟩
            · exact ⟨_, h, ts.mono (by decide)⟩
            · exact ⟨_, h, tm.mono (by decide)⟩
            · exact ⟨_, h, tj.mono (by decide)⟩
            · exact ⟨_, h, tz8.mono (by decide)⟩
          refine Vc.e_forL (e12 _) (fun i σ H' => (∃ y1 y2 y3 y5 y7 y8 y9 y10 y11 y12 : Option V, σ = [some (.ref a), y1, y2, y3, some (.int la), y5, some (.str (SX.S T)), y7, y8, y9, y10, y11, y12]) ∧ Same H13 H' ∧ SqL K H' p12 XS) ⟨⟨_, _, _, _, _, _, _, _, _, _, rfl⟩, sD, e12 _⟩ (fun _ _ _ _ h => h.2.2) ?_ ?_
          · rintro j x σ Ha hj ⟨⟨y1, y2, y3, y5, y7, y8, y9, y10, y11, y12, rfl⟩, sF, sq⟩
            obtain ⟨z, rfl, tz⟩ := hall x (List.mem_of_getElem? hj)
            have tz2 := tz.2
            walk_at "x"
            refine rd tz.1 (by omega) fun q1 Hb s20 e20 => ?_
            walk_at "x"
            refine ⟨z, rfl, tz.1, by omega, fun q2 Hc s21 e21 => ?_⟩
            refine ne_two (s21 _ _ e20) e21 ?_
            walk_at "x"
            exact ⟨⟨_, _, _, _, _, _, _, _, _, _, rfl⟩, sF.trans (s20.trans s21), (s20.trans s21).seq sq⟩
          · rintro σ Ha ⟨⟨y1, y2, y3, y5, y7, y8, y9, y10, y11, y12, rfl⟩, sF, sq⟩
            walk_at "x"
            refine ⟨by walk_at "sz", fun q1 hq1 => ?_⟩
            walk_at "x"
            refine ⟨by walk_at "sz", fun q2 hq2 => ?_⟩
            walk_at "x"
            refine ⟨by walk_at "sz", fun q3 hq3 => ?_⟩
            obtain ⟨XT, hXT⟩ : ∃ XT, XT = [V.non, V.int la, V.ref q1, V.ref q2, V.bl true] := ⟨_, rfl⟩
            rw [← hXT]
            have sG := ((sF.trans (same_new hq1)).trans (same_new hq2)).trans (same_new (o := HO.lst XT) hq3)
            have e13 : ∀ Hq : Hp, SqL K (upd Hq q3 (HO.lst XT)) q3 XT := fun Hq => SqL.of upd_same
            refine Vc.e_forL (e13 _) (fun i σ H' => (∃ y1 y2 y3 y5 y7 y8 y9 y10 y11 y12 y4 y6 : Option V, σ = [some (.ref a), y1, y2, y3, y4, y5, y6, y7, y8, y9, y10, y11, y12]) ∧ Same H13 H' ∧ H' q1 = some (.lst [.str (SX.S T)]) ∧ H' q2 = some (.tup [.str (SX.S T)]) ∧ SqL K H' q3 XT)
              ⟨⟨_, _, _, _, _, _, _, _, _, _, _, _, rfl⟩, sG, Vc.h_new hq3 (Vc.h_new hq2 upd_same), Vc.h_new hq3 upd_same, e13 _⟩ (fun _ _ _ _ h => h.2.2.2.2) ?_ ?_
            · rintro j x σ Hb hj ⟨⟨y1, y2, y3, y5, y7, y8, y9, y10, y11, y12, y4, y6, rfl⟩, sH, w1, w2, sq3⟩
              obtain ⟨t, d, g1, g2, g3, g4⟩ := odd_data (K := K) tT (Nat.le_refl 30) hl1.1 (by omega : la ≤ 1000000000000) w1 w2 (hXT ▸ List.mem_of_getElem? hj)
              walk_at "x"
              refine rdO g1 g2 g3 g4 fun p20 Hc s20 e20 => ?_
              walk_at "x"
              refine ⟨by walk_at "sz", fun p21 hp21 => ?_⟩
              refine ne_two (a := none) (b := none) (Vc.h_new hp21 e20) upd_same ?_
              walk_at "x"
              have sI := s20.trans (same_new (o := HO.lst [V.non, V.non]) hp21)
              exact ⟨⟨_, _, _, _, _, _, _, _, _, _, _, _, rfl⟩, sH.trans sI, sI _ _ w1, sI _ _ w2, sI.seq sq3⟩
            · rintro σ Hb ⟨⟨y1, y2, y3, y5, y7, y8, y9, y10, y11, y12, y4, y6, rfl⟩, sH, _⟩
              walk_at "x"
              exact ⟨⟨_, _, _, _, _, _, _, _, _, _, _, _, rfl⟩, sH.seq (kC.seqN hb0 hs)⟩))
    · rintro σ Ha ⟨⟨x1, x2, x3, x4, x5, x6, x7, x8, x9, x10, x11, x12, rfl⟩, hs⟩
      walk_at "x"
      exact k _
end

end K03

set_option Elab.async false
set_option maxRecDepth 100000
set_option maxHeartbeats 4000000
namespace K03
open PySem L2
abbrev s_InvalidHeight___init__ : Stmt := inClass (topS 3) 0
theorem ss_InvalidHeight___init__ : Xs.SupS ["self", "value"] (defArgs s_InvalidHeight___init__) (defScope s_InvalidHeight___init__) := ⟨rfl, rfl, rfl, by decide +kernel, by decide +kernel, by decide +kernel, Xe.free_by (by decide +kernel), Xe.nocell_by (by decide +kernel), rfl, rfl, ⟨_, rfl, rfl⟩⟩

abbrev s_InvalidBounds___init__ : Stmt := inClass (topS 4) 0
theorem ss_InvalidBounds___init__ : Xs.SupS ["self", "low", "high"] (defArgs s_InvalidBounds___init__) (defScope s_InvalidBounds___init__) := ⟨rfl, rfl, rfl, by decide +kernel, by decide +kernel, by decide +kernel, Xe.free_by (by decide +kernel), Xe.nocell_by (by decide +kernel), rfl, rfl, ⟨_, rfl, rfl⟩⟩

abbrev s_InvalidText___init__ : Stmt := inClass (topS 5) 0
theorem ss_InvalidText___init__ : Xs.SupS ["self", "value"] (defArgs s_InvalidText___init__) (defScope s_InvalidText___init__) := ⟨rfl, rfl, rfl, by decide +kernel, by decide +kernel, by decide +kernel, Xe.free_by (by decide +kernel), Xe.nocell_by (by decide +kernel), rfl, rfl, ⟨_, rfl, rfl⟩⟩

theorem all_mk {l : PySem.W.OpenLaw} {w : World} {K : PySem.W.Frag} {h : Heap} {mg : Str → Option Value} {fa : Addr} (X : K.In h) (G : h.Ns mainGlobals mg) (hfa : mg "law" = some (.ref fa))
    {t_MOST_HEIGHT : Tok}
    {C_Bounds : Addr}
    {f_Bounds___init__ : Addr} {oc_Bounds___init__ kV_Bounds___init__ dc_Bounds___init__ pm_Bounds___init__ cd_Bounds___init__ ct_Bounds___init__ : Value} {od_Bounds___init__ an_Bounds___init__ : Option Addr} {sl_Bounds___init__ : Array (Option Value)}
    {f_Bounds___str__ : Addr} {oc_Bounds___str__ kV_Bounds___str__ dc_Bounds___str__ pm_Bounds___str__ cd_Bounds___str__ ct_Bounds___str__ : Value} {od_Bounds___str__ an_Bounds___str__ : Option Addr} {sl_Bounds___str__ : Array (Option Value)}
    {f_Bounds_from_text : Addr} {oc_Bounds_from_text kV_Bounds_from_text dc_Bounds_from_text pm_Bounds_from_text cd_Bounds_from_text ct_Bounds_from_text : Value} {od_Bounds_from_text an_Bounds_from_text : Option Addr} {sl_Bounds_from_text : Array (Option Value)}
    {p_Bounds_from_text : Addr} {r_Bounds_from_text : List Value}
    {f_is_height : Addr} {oc_is_height kV_is_height dc_is_height pm_is_height cd_is_height ct_is_height : Value} {od_is_height an_is_height : Option Addr} {sl_is_height : Array (Option Value)}
    {f_number_of : Addr} {oc_number_of kV_number_of dc_number_of pm_number_of cd_number_of ct_number_of : Value} {od_number_of an_number_of : Option Addr} {sl_number_of : Array (Option Value)}
    {f_ends_of : Addr} {oc_ends_of kV_ends_of dc_ends_of pm_ends_of cd_ends_of ct_ends_of : Value} {od_ends_of an_ends_of : Option Addr} {sl_ends_of : Array (Option Value)}
    {f__law_cell : Addr} {oc__law_cell kV__law_cell dc__law_cell pm__law_cell cd__law_cell ct__law_cell : Value} {od__law_cell an__law_cell : Option Addr} {sl__law_cell : Array (Option Value)}
    {f__law_box : Addr} {oc__law_box kV__law_box dc__law_box pm__law_box cd__law_box ct__law_box : Value} {od__law_box an__law_box : Option Addr} {sl__law_box : Array (Option Value)}
    {f__law_take : Addr} {oc__law_take kV__law_take dc__law_take pm__law_take cd__law_take ct__law_take : Value} {od__law_take an__law_take : Option Addr} {sl__law_take : Array (Option Value)}
    {f__law_written : Addr} {oc__law_written kV__law_written dc__law_written pm__law_written cd__law_written ct__law_written : Value} {od__law_written an__law_written : Option Addr} {sl__law_written : Array (Option Value)}
    {f__law_number : Addr} {oc__law_number kV__law_number dc__law_number pm__law_number cd__law_number ct__law_number : Value} {od__law_number an__law_number : Option Addr} {sl__law_number : Array (Option Value)}
    {f__law_due : Addr} {oc__law_due kV__law_due dc__law_due pm__law_due cd__law_due ct__law_due : Value} {od__law_due an__law_due : Option Addr} {sl__law_due : Array (Option Value)}
    {f__law_read : Addr} {oc__law_read kV__law_read dc__law_read pm__law_read cd__law_read ct__law_read : Value} {od__law_read an__law_read : Option Addr} {sl__law_read : Array (Option Value)}
    {f_law : Addr} {oc_law kV_law dc_law pm_law cd_law ct_law : Value} {od_law an_law : Option Addr} {sl_law : Array (Option Value)}
    {C_InvalidHeight : Addr} {nm_InvalidHeight q_InvalidHeight : Str} {N_InvalidHeight : Addr} {bs_InvalidHeight bm_InvalidHeight : List Value} {sn_InvalidHeight : List Str} {sub_InvalidHeight : List Value} {ab_InvalidHeight : Bool} {col_InvalidHeight : Option Bool} {dd_InvalidHeight : Option Addr} {m0_InvalidHeight m1_InvalidHeight m2_InvalidHeight m3_InvalidHeight m5_InvalidHeight : Option Value}
    {f_InvalidHeight___init__ : Addr} {oc_InvalidHeight___init__ kV_InvalidHeight___init__ dc_InvalidHeight___init__ pm_InvalidHeight___init__ ct_InvalidHeight___init__ : Value} {od_InvalidHeight___init__ an_InvalidHeight___init__ : Option Addr} {sl_InvalidHeight___init__ : Array (Option Value)} {cda_InvalidHeight___init__ cc_InvalidHeight___init__ : Addr} {ccl_InvalidHeight___init__ : Value} {cdd_InvalidHeight___init__ : Option Addr} {cvs_InvalidHeight___init__ : Array Value} {ccs_InvalidHeight___init__ : Array (Option Value)} {fl_InvalidHeight___init__ : Str} {tf_InvalidHeight___init__ : Tok} {cl_InvalidHeight___init__ : Value} {cld_InvalidHeight___init__ : Option Addr} {csl_InvalidHeight___init__ : Array (Option Value)} {cdC_InvalidHeight___init__ : ClassData}
    {C_InvalidBounds : Addr} {nm_InvalidBounds q_InvalidBounds : Str} {N_InvalidBounds : Addr} {bs_InvalidBounds bm_InvalidBounds : List Value} {sn_InvalidBounds : List Str} {sub_InvalidBounds : List Value} {ab_InvalidBounds : Bool} {col_InvalidBounds : Option Bool} {dd_InvalidBounds : Option Addr} {m0_InvalidBounds m1_InvalidBounds m2_InvalidBounds m3_InvalidBounds m5_InvalidBounds : Option Value}
    {f_InvalidBounds___init__ : Addr} {oc_InvalidBounds___init__ kV_InvalidBounds___init__ dc_InvalidBounds___init__ pm_InvalidBounds___init__ ct_InvalidBounds___init__ : Value} {od_InvalidBounds___init__ an_InvalidBounds___init__ : Option Addr} {sl_InvalidBounds___init__ : Array (Option Value)} {cda_InvalidBounds___init__ cc_InvalidBounds___init__ : Addr} {ccl_InvalidBounds___init__ : Value} {cdd_InvalidBounds___init__ : Option Addr} {cvs_InvalidBounds___init__ : Array Value} {ccs_InvalidBounds___init__ : Array (Option Value)} {fl_InvalidBounds___init__ : Str} {tf_InvalidBounds___init__ : Tok} {cl_InvalidBounds___init__ : Value} {cld_InvalidBounds___init__ : Option Addr} {csl_InvalidBounds___init__ : Array (Option Value)} {cdC_InvalidBounds___init__ : ClassData}
    {C_InvalidText : Addr} {nm_InvalidText q_InvalidText : Str} {N_InvalidText : Addr} {bs_InvalidText bm_InvalidText : List Value} {sn_InvalidText : List Str} {sub_InvalidText : List Value} {ab_InvalidText : Bool} {col_InvalidText : Option Bool} {dd_InvalidText : Option Addr} {m0_InvalidText m1_InvalidText m2_InvalidText m3_InvalidText m5_InvalidText : Option Value}
    {f_InvalidText___init__ : Addr} {oc_InvalidText___init__ kV_InvalidText___init__ dc_InvalidText___init__ pm_InvalidText___init__ ct_InvalidText___init__ : Value} {od_InvalidText___init__ an_InvalidText___init__ : Option Addr} {sl_InvalidText___init__ : Array (Option Value)} {cda_InvalidText___init__ cc_InvalidText___init__ : Addr} {ccl_InvalidText___init__ : Value} {cdd_InvalidText___init__ : Option Addr} {cvs_InvalidText___init__ : Array Value} {ccs_InvalidText___init__ : Array (Option Value)} {fl_InvalidText___init__ : Str} {tf_InvalidText___init__ : Tok} {cl_InvalidText___init__ : Value} {cld_InvalidText___init__ : Option Addr} {csl_InvalidText___init__ : Array (Option Value)} {cdC_InvalidText___init__ : ClassData}
    (z_isinstance : PySem.W.nsIn K mainGlobals "isinstance" = some none)
    (z_int : PySem.W.nsIn K mainGlobals "int" = some none)
    (z_bool : PySem.W.nsIn K mainGlobals "bool" = some none)
    (z_str : PySem.W.nsIn K mainGlobals "str" = some none)
    (z_len : PySem.W.nsIn K mainGlobals "len" = some none)
    (z_max : PySem.W.nsIn K mainGlobals "max" = some none)
    (z_min : PySem.W.nsIn K mainGlobals "min" = some none)
    (z_abs : PySem.W.nsIn K mainGlobals "abs" = some none)
    (z_repr : PySem.W.nsIn K mainGlobals "repr" = some none)
    (z_range : PySem.W.nsIn K mainGlobals "range" = some none)
    (g_MOST_HEIGHT : PySem.W.nsIn K mainGlobals "MOST_HEIGHT" = some (some (.int 1000000000000 t_MOST_HEIGHT)))
    (n_Bounds : PySem.W.nsIn K mainGlobals "Bounds" = some (some (.ref C_Bounds)))
    (pg_Bounds : PySem.W.plainGet K C_Bounds Str.empty = true)
    (hd_Bounds : PySem.W.hasDictIn K C_Bounds = true)
    (po_Bounds : PySem.W.plainOver K C_Bounds = true)
    (sa_Bounds : PySem.W.findIn K (.ref C_Bounds) "__setattr__" = some (some (.builtin "object.__setattr__")))
    (ha_Bounds : PySem.W.findIn K (.ref C_Bounds) "__class__" = some (some (.builtin "object.__class__")))
    (hn_Bounds : PySem.W.specialIn K (.builtin "object.__class__") "__get__" = some (some (.builtin "getset_descriptor.__get__")))
    (ht_Bounds : PySem.W.takesIn K (.builtin "object.__class__") = some true)
    (hm_Bounds : PySem.W.mroIn K C_Bounds (.type "object") = some true)
    (ic_Bounds : PySem.W.isClsIn K C_Bounds = true)
    (tc_Bounds : PySem.W.typeIn K (.ref C_Bounds) = some (.type "type"))
    (na_Bounds_low : PySem.W.findIn K (.ref C_Bounds) "low" = some none)
    (na_Bounds_high : PySem.W.findIn K (.ref C_Bounds) "high" = some none)
    (mk_Bounds : PySem.W.makesIn K C_Bounds = true)
    (kp_Bounds : PySem.W.keepIn K (.ref C_Bounds) = true)
    (sf_Bounds : PySem.W.selfFirst K C_Bounds = true)
    (a_Bounds___init__ : PySem.W.findIn K (.ref C_Bounds) "__init__" = some (some (.ref f_Bounds___init__)))
    (i_Bounds___init__ : PySem.W.isFn K (.ref f_Bounds___init__) = true)
    (l_Bounds___init__ : K.lookup f_Bounds___init__ = some ⟨oc_Bounds___init__, od_Bounds___init__, .func (PySem.W.fnOf "__init__" "Bounds.__init__" (defArgs s_Bounds___init__) (defBody s_Bounds___init__) (defScope s_Bounds___init__) .none kV_Bounds___init__ dc_Bounds___init__ pm_Bounds___init__ an_Bounds___init__ cd_Bounds___init__ ct_Bounds___init__), sl_Bounds___init__⟩)
    (c_Bounds___init__ : PySem.W.codeIn K cd_Bounds___init__ "Bounds.__init__" = true)
    (k_Bounds___init__ : PySem.W.keepIn K (.ref f_Bounds___init__) = true)
    (a_Bounds___str__ : PySem.W.findIn K (.ref C_Bounds) "__str__" = some (some (.ref f_Bounds___str__)))
    (i_Bounds___str__ : PySem.W.isFn K (.ref f_Bounds___str__) = true)
    (l_Bounds___str__ : K.lookup f_Bounds___str__ = some ⟨oc_Bounds___str__, od_Bounds___str__, .func (PySem.W.fnOf "__str__" "Bounds.__str__" (defArgs s_Bounds___str__) (defBody s_Bounds___str__) (defScope s_Bounds___str__) .none kV_Bounds___str__ dc_Bounds___str__ pm_Bounds___str__ an_Bounds___str__ cd_Bounds___str__ ct_Bounds___str__), sl_Bounds___str__⟩)
    (c_Bounds___str__ : PySem.W.codeIn K cd_Bounds___str__ "Bounds.__str__" = true)
    (k_Bounds___str__ : PySem.W.keepIn K (.ref f_Bounds___str__) = true)
    (rd_Bounds : PySem.W.readsIn K C_Bounds (.type "type") = true)
    (ga_Bounds : PySem.W.specialIn K (.ref C_Bounds) "__getattribute__" = some (some (.builtin "type.__getattribute__")))
    (a_Bounds_from_text : PySem.W.findCls K (.ref C_Bounds) (.type "type") "from_text" = some (.get (.builtin "classmethod.__get__") (.ref p_Bounds_from_text) .none (.ref C_Bounds)))
    (pr_Bounds_from_text : PySem.W.recIn K p_Bounds_from_text "classmethod" = some (.ref f_Bounds_from_text :: r_Bounds_from_text))
    (fi_Bounds_from_text : PySem.W.fnIn K f_Bounds_from_text = true)
    (l_Bounds_from_text : K.lookup f_Bounds_from_text = some ⟨oc_Bounds_from_text, od_Bounds_from_text, .func (PySem.W.fnOf "from_text" "Bounds.from_text" (defArgs s_Bounds_from_text) (defBody s_Bounds_from_text) (defScope s_Bounds_from_text) .none kV_Bounds_from_text dc_Bounds_from_text pm_Bounds_from_text an_Bounds_from_text cd_Bounds_from_text ct_Bounds_from_text), sl_Bounds_from_text⟩)
    (c_Bounds_from_text : PySem.W.codeIn K cd_Bounds_from_text "Bounds.from_text" = true)
    (k_Bounds_from_text : PySem.W.keepIn K (.ref f_Bounds_from_text) = true)
    (a_is_height : PySem.W.nsIn K mainGlobals "is_height" = some (some (.ref f_is_height)))
    (l_is_height : K.lookup f_is_height = some ⟨oc_is_height, od_is_height, .func (PySem.W.fnOf "is_height" "is_height" (defArgs s_is_height) (defBody s_is_height) (defScope s_is_height) .none kV_is_height dc_is_height pm_is_height an_is_height cd_is_height ct_is_height), sl_is_height⟩)
    (c_is_height : PySem.W.codeIn K cd_is_height "is_height" = true)
    (k_is_height : PySem.W.keepIn K (.ref f_is_height) = true)
    (a_number_of : PySem.W.nsIn K mainGlobals "number_of" = some (some (.ref f_number_of)))
    (l_number_of : K.lookup f_number_of = some ⟨oc_number_of, od_number_of, .func (PySem.W.fnOf "number_of" "number_of" (defArgs s_number_of) (defBody s_number_of) (defScope s_number_of) .none kV_number_of dc_number_of pm_number_of an_number_of cd_number_of ct_number_of), sl_number_of⟩)
    (c_number_of : PySem.W.codeIn K cd_number_of "number_of" = true)
    (k_number_of : PySem.W.keepIn K (.ref f_number_of) = true)
    (a_ends_of : PySem.W.nsIn K mainGlobals "ends_of" = some (some (.ref f_ends_of)))
    (l_ends_of : K.lookup f_ends_of = some ⟨oc_ends_of, od_ends_of, .func (PySem.W.fnOf "ends_of" "ends_of" (defArgs s_ends_of) (defBody s_ends_of) (defScope s_ends_of) .none kV_ends_of dc_ends_of pm_ends_of an_ends_of cd_ends_of ct_ends_of), sl_ends_of⟩)
    (c_ends_of : PySem.W.codeIn K cd_ends_of "ends_of" = true)
    (k_ends_of : PySem.W.keepIn K (.ref f_ends_of) = true)
    (a__law_cell : PySem.W.nsIn K mainGlobals "_law_cell" = some (some (.ref f__law_cell)))
    (l__law_cell : K.lookup f__law_cell = some ⟨oc__law_cell, od__law_cell, .func (PySem.W.fnOf "_law_cell" "_law_cell" (defArgs s__law_cell) (defBody s__law_cell) (defScope s__law_cell) .none kV__law_cell dc__law_cell pm__law_cell an__law_cell cd__law_cell ct__law_cell), sl__law_cell⟩)
    (c__law_cell : PySem.W.codeIn K cd__law_cell "_law_cell" = true)
    (k__law_cell : PySem.W.keepIn K (.ref f__law_cell) = true)
    (a__law_box : PySem.W.nsIn K mainGlobals "_law_box" = some (some (.ref f__law_box)))
    (l__law_box : K.lookup f__law_box = some ⟨oc__law_box, od__law_box, .func (PySem.W.fnOf "_law_box" "_law_box" (defArgs s__law_box) (defBody s__law_box) (defScope s__law_box) .none kV__law_box dc__law_box pm__law_box an__law_box cd__law_box ct__law_box), sl__law_box⟩)
    (c__law_box : PySem.W.codeIn K cd__law_box "_law_box" = true)
    (k__law_box : PySem.W.keepIn K (.ref f__law_box) = true)
    (a__law_take : PySem.W.nsIn K mainGlobals "_law_take" = some (some (.ref f__law_take)))
    (l__law_take : K.lookup f__law_take = some ⟨oc__law_take, od__law_take, .func (PySem.W.fnOf "_law_take" "_law_take" (defArgs s__law_take) (defBody s__law_take) (defScope s__law_take) .none kV__law_take dc__law_take pm__law_take an__law_take cd__law_take ct__law_take), sl__law_take⟩)
    (c__law_take : PySem.W.codeIn K cd__law_take "_law_take" = true)
    (k__law_take : PySem.W.keepIn K (.ref f__law_take) = true)
    (a__law_written : PySem.W.nsIn K mainGlobals "_law_written" = some (some (.ref f__law_written)))
    (l__law_written : K.lookup f__law_written = some ⟨oc__law_written, od__law_written, .func (PySem.W.fnOf "_law_written" "_law_written" (defArgs s__law_written) (defBody s__law_written) (defScope s__law_written) .none kV__law_written dc__law_written pm__law_written an__law_written cd__law_written ct__law_written), sl__law_written⟩)
    (c__law_written : PySem.W.codeIn K cd__law_written "_law_written" = true)
    (k__law_written : PySem.W.keepIn K (.ref f__law_written) = true)
    (a__law_number : PySem.W.nsIn K mainGlobals "_law_number" = some (some (.ref f__law_number)))
    (l__law_number : K.lookup f__law_number = some ⟨oc__law_number, od__law_number, .func (PySem.W.fnOf "_law_number" "_law_number" (defArgs s__law_number) (defBody s__law_number) (defScope s__law_number) .none kV__law_number dc__law_number pm__law_number an__law_number cd__law_number ct__law_number), sl__law_number⟩)
    (c__law_number : PySem.W.codeIn K cd__law_number "_law_number" = true)
    (k__law_number : PySem.W.keepIn K (.ref f__law_number) = true)
    (a__law_due : PySem.W.nsIn K mainGlobals "_law_due" = some (some (.ref f__law_due)))
    (l__law_due : K.lookup f__law_due = some ⟨oc__law_due, od__law_due, .func (PySem.W.fnOf "_law_due" "_law_due" (defArgs s__law_due) (defBody s__law_due) (defScope s__law_due) .none kV__law_due dc__law_due pm__law_due an__law_due cd__law_due ct__law_due), sl__law_due⟩)
    (c__law_due : PySem.W.codeIn K cd__law_due "_law_due" = true)
    (k__law_due : PySem.W.keepIn K (.ref f__law_due) = true)
    (a__law_read : PySem.W.nsIn K mainGlobals "_law_read" = some (some (.ref f__law_read)))
    (l__law_read : K.lookup f__law_read = some ⟨oc__law_read, od__law_read, .func (PySem.W.fnOf "_law_read" "_law_read" (defArgs s__law_read) (defBody s__law_read) (defScope s__law_read) .none kV__law_read dc__law_read pm__law_read an__law_read cd__law_read ct__law_read), sl__law_read⟩)
    (c__law_read : PySem.W.codeIn K cd__law_read "_law_read" = true)
    (k__law_read : PySem.W.keepIn K (.ref f__law_read) = true)
    (a_law : PySem.W.nsIn K mainGlobals "law" = some (some (.ref f_law)))
    (l_law : K.lookup f_law = some ⟨oc_law, od_law, .func (PySem.W.fnOf "law" "law" (defArgs s_law) (defBody s_law) (defScope s_law) .none kV_law dc_law pm_law an_law cd_law ct_law), sl_law⟩)
    (c_law : PySem.W.codeIn K cd_law "law" = true)
    (k_law : PySem.W.keepIn K (.ref f_law) = true)
    (z_super : PySem.W.nsIn K mainGlobals "super" = some none)
    (tp_any : PySem.W.nsIn K cStatics "thirdparty.any" = some none)
    (top_super : (l.prog.main.scope.names.lookup ("super" : Str)).isSome = false)
    (n_InvalidHeight : PySem.W.nsIn K mainGlobals "InvalidHeight" = some (some (.ref C_InvalidHeight)))
    (xl_InvalidHeight : K.lookup C_InvalidHeight = some (excClassObj nm_InvalidHeight q_InvalidHeight C_InvalidHeight N_InvalidHeight bs_InvalidHeight bm_InvalidHeight true sn_InvalidHeight sub_InvalidHeight ab_InvalidHeight col_InvalidHeight dd_InvalidHeight m0_InvalidHeight m1_InvalidHeight m2_InvalidHeight m3_InvalidHeight m5_InvalidHeight "ValueError.__new__"))
    (xr_InvalidHeight : PySem.HandSPX.refsVE bm_InvalidHeight = true)
    (sa_InvalidHeight : PySem.W.findIn K (.ref C_InvalidHeight) "__setattr__" = some (some (.builtin "object.__setattr__")))
    (eC_InvalidHeight : PySem.W.subIn K (.ref C_InvalidHeight) (.type "BaseException") = some true)
    (tc_InvalidHeight : PySem.W.typeIn K (.ref C_InvalidHeight) = some (.type "type"))
    (ic_InvalidHeight : PySem.W.isClsIn K C_InvalidHeight = true)
    (kp_InvalidHeight : PySem.W.keepIn K (.ref C_InvalidHeight) = true)
    (ga_InvalidHeight : PySem.W.findIn K (.ref C_InvalidHeight) "__getattribute__" = some (some (.builtin "BaseException.__getattribute__")))
    (gg_InvalidHeight : PySem.W.findIn K (.ref C_InvalidHeight) "__getattr__" = some none)
    (hd_InvalidHeight : PySem.W.hasDictIn K C_InvalidHeight = true)
    (na_InvalidHeight_value : PySem.W.findIn K (.ref C_InvalidHeight) "value" = some none)
    (a_InvalidHeight___init__ : PySem.W.findIn K (.ref C_InvalidHeight) "__init__" = some (some (.ref f_InvalidHeight___init__)))
    (t_InvalidHeight___init__ : PySem.W.typeIn K (.ref f_InvalidHeight___init__) = some (.type "function"))
    (l_InvalidHeight___init__ : K.lookup f_InvalidHeight___init__ = some ⟨oc_InvalidHeight___init__, od_InvalidHeight___init__, .func (PySem.W.ksFn "__init__" "InvalidHeight.__init__" (defArgs s_InvalidHeight___init__) (defBody s_InvalidHeight___init__) (defScope s_InvalidHeight___init__) .none kV_InvalidHeight___init__ dc_InvalidHeight___init__ pm_InvalidHeight___init__ an_InvalidHeight___init__ (.ref cda_InvalidHeight___init__) ct_InvalidHeight___init__ cc_InvalidHeight___init__), sl_InvalidHeight___init__⟩)
    (c_InvalidHeight___init__ : PySem.W.codeIn K (.ref cda_InvalidHeight___init__) "InvalidHeight.__init__" = true)
    (d_InvalidHeight___init__ : K.lookup cda_InvalidHeight___init__ = some ⟨ccl_InvalidHeight___init__, cdd_InvalidHeight___init__, .fields cvs_InvalidHeight___init__, ccs_InvalidHeight___init__⟩)
    (f_2_InvalidHeight___init__ : cvs_InvalidHeight___init__[2]? = some (.str fl_InvalidHeight___init__ tf_InvalidHeight___init__))
    (g_InvalidHeight___init__ : ((l.prog.main.file : Str) == fl_InvalidHeight___init__) = true)
    (e_InvalidHeight___init__ : K.lookup cc_InvalidHeight___init__ = some ⟨cl_InvalidHeight___init__, cld_InvalidHeight___init__, .cell (some (.ref C_InvalidHeight)), csl_InvalidHeight___init__⟩)
    (q_InvalidHeight___init__ : PySem.W.clsIn K C_InvalidHeight = some cdC_InvalidHeight___init__)
    (m_InvalidHeight___init__ : PySem.W.mroIn K C_InvalidHeight (.ref C_InvalidHeight) = some true)
    (u_InvalidHeight___init__ : PySem.W.ks_superIn K C_InvalidHeight C_InvalidHeight "__init__" = some (some (.builtin "ValueError.__init__")))
    (v_InvalidHeight___init__ : PySem.W.subIn K (.ref C_InvalidHeight) (.type "ValueError") = some true)
    (n_InvalidBounds : PySem.W.nsIn K mainGlobals "InvalidBounds" = some (some (.ref C_InvalidBounds)))
    (xl_InvalidBounds : K.lookup C_InvalidBounds = some (excClassObj nm_InvalidBounds q_InvalidBounds C_InvalidBounds N_InvalidBounds bs_InvalidBounds bm_InvalidBounds true sn_InvalidBounds sub_InvalidBounds ab_InvalidBounds col_InvalidBounds dd_InvalidBounds m0_InvalidBounds m1_InvalidBounds m2_InvalidBounds m3_InvalidBounds m5_InvalidBounds "ValueError.__new__"))
    (xr_InvalidBounds : PySem.HandSPX.refsVE bm_InvalidBounds = true)
    (sa_InvalidBounds : PySem.W.findIn K (.ref C_InvalidBounds) "__setattr__" = some (some (.builtin "object.__setattr__")))
    (eC_InvalidBounds : PySem.W.subIn K (.ref C_InvalidBounds) (.type "BaseException") = some true)
    (tc_InvalidBounds : PySem.W.typeIn K (.ref C_InvalidBounds) = some (.type "type"))
    (ic_InvalidBounds : PySem.W.isClsIn K C_InvalidBounds = true)
    (kp_InvalidBounds : PySem.W.keepIn K (.ref C_InvalidBounds) = true)
    (ga_InvalidBounds : PySem.W.findIn K (.ref C_InvalidBounds) "__getattribute__" = some (some (.builtin "BaseException.__getattribute__")))
    (gg_InvalidBounds : PySem.W.findIn K (.ref C_InvalidBounds) "__getattr__" = some none)
    (hd_InvalidBounds : PySem.W.hasDictIn K C_InvalidBounds = true)
    (na_InvalidBounds_low : PySem.W.findIn K (.ref C_InvalidBounds) "low" = some none)
    (na_InvalidBounds_high : PySem.W.findIn K (.ref C_InvalidBounds) "high" = some none)
    (a_InvalidBounds___init__ : PySem.W.findIn K (.ref C_InvalidBounds) "__init__" = some (some (.ref f_InvalidBounds___init__)))
    (t_InvalidBounds___init__ : PySem.W.typeIn K (.ref f_InvalidBounds___init__) = some (.type "function"))
    (l_InvalidBounds___init__ : K.lookup f_InvalidBounds___init__ = some ⟨oc_InvalidBounds___init__, od_InvalidBounds___init__, .func (PySem.W.ksFn "__init__" "InvalidBounds.__init__" (defArgs s_InvalidBounds___init__) (defBody s_InvalidBounds___init__) (defScope s_InvalidBounds___init__) .none kV_InvalidBounds___init__ dc_InvalidBounds___init__ pm_InvalidBounds___init__ an_InvalidBounds___init__ (.ref cda_InvalidBounds___init__) ct_InvalidBounds___init__ cc_InvalidBounds___init__), sl_InvalidBounds___init__⟩)
    (c_InvalidBounds___init__ : PySem.W.codeIn K (.ref cda_InvalidBounds___init__) "InvalidBounds.__init__" = true)
    (d_InvalidBounds___init__ : K.lookup cda_InvalidBounds___init__ = some ⟨ccl_InvalidBounds___init__, cdd_InvalidBounds___init__, .fields cvs_InvalidBounds___init__, ccs_InvalidBounds___init__⟩)
    (f_2_InvalidBounds___init__ : cvs_InvalidBounds___init__[2]? = some (.str fl_InvalidBounds___init__ tf_InvalidBounds___init__))
    (g_InvalidBounds___init__ : ((l.prog.main.file : Str) == fl_InvalidBounds___init__) = true)
    (e_InvalidBounds___init__ : K.lookup cc_InvalidBounds___init__ = some ⟨cl_InvalidBounds___init__, cld_InvalidBounds___init__, .cell (some (.ref C_InvalidBounds)), csl_InvalidBounds___init__⟩)
    (q_InvalidBounds___init__ : PySem.W.clsIn K C_InvalidBounds = some cdC_InvalidBounds___init__)
    (m_InvalidBounds___init__ : PySem.W.mroIn K C_InvalidBounds (.ref C_InvalidBounds) = some true)
    (u_InvalidBounds___init__ : PySem.W.ks_superIn K C_InvalidBounds C_InvalidBounds "__init__" = some (some (.builtin "ValueError.__init__")))
    (v_InvalidBounds___init__ : PySem.W.subIn K (.ref C_InvalidBounds) (.type "ValueError") = some true)
    (n_InvalidText : PySem.W.nsIn K mainGlobals "InvalidText" = some (some (.ref C_InvalidText)))
    (xl_InvalidText : K.lookup C_InvalidText = some (excClassObj nm_InvalidText q_InvalidText C_InvalidText N_InvalidText bs_InvalidText bm_InvalidText true sn_InvalidText sub_InvalidText ab_InvalidText col_InvalidText dd_InvalidText m0_InvalidText m1_InvalidText m2_InvalidText m3_InvalidText m5_InvalidText "ValueError.__new__"))
    (xr_InvalidText : PySem.HandSPX.refsVE bm_InvalidText = true)
    (sa_InvalidText : PySem.W.findIn K (.ref C_InvalidText) "__setattr__" = some (some (.builtin "object.__setattr__")))
    (eC_InvalidText : PySem.W.subIn K (.ref C_InvalidText) (.type "BaseException") = some true)
    (tc_InvalidText : PySem.W.typeIn K (.ref C_InvalidText) = some (.type "type"))
    (ic_InvalidText : PySem.W.isClsIn K C_InvalidText = true)
    (kp_InvalidText : PySem.W.keepIn K (.ref C_InvalidText) = true)
    (ga_InvalidText : PySem.W.findIn K (.ref C_InvalidText) "__getattribute__" = some (some (.builtin "BaseException.__getattribute__")))
    (gg_InvalidText : PySem.W.findIn K (.ref C_InvalidText) "__getattr__" = some none)
    (hd_InvalidText : PySem.W.hasDictIn K C_InvalidText = true)
    (na_InvalidText_value : PySem.W.findIn K (.ref C_InvalidText) "value" = some none)
    (a_InvalidText___init__ : PySem.W.findIn K (.ref C_InvalidText) "__init__" = some (some (.ref f_InvalidText___init__)))
    (t_InvalidText___init__ : PySem.W.typeIn K (.ref f_InvalidText___init__) = some (.type "function"))
    (l_InvalidText___init__ : K.lookup f_InvalidText___init__ = some ⟨oc_InvalidText___init__, od_InvalidText___init__, .func (PySem.W.ksFn "__init__" "InvalidText.__init__" (defArgs s_InvalidText___init__) (defBody s_InvalidText___init__) (defScope s_InvalidText___init__) .none kV_InvalidText___init__ dc_InvalidText___init__ pm_InvalidText___init__ an_InvalidText___init__ (.ref cda_InvalidText___init__) ct_InvalidText___init__ cc_InvalidText___init__), sl_InvalidText___init__⟩)
    (c_InvalidText___init__ : PySem.W.codeIn K (.ref cda_InvalidText___init__) "InvalidText.__init__" = true)
    (d_InvalidText___init__ : K.lookup cda_InvalidText___init__ = some ⟨ccl_InvalidText___init__, cdd_InvalidText___init__, .fields cvs_InvalidText___init__, ccs_InvalidText___init__⟩)
    (f_2_InvalidText___init__ : cvs_InvalidText___init__[2]? = some (.str fl_InvalidText___init__ tf_InvalidText___init__))
    (g_InvalidText___init__ : ((l.prog.main.file : Str) == fl_InvalidText___init__) = true)
    (e_InvalidText___init__ : K.lookup cc_InvalidText___init__ = some ⟨cl_InvalidText___init__, cld_InvalidText___init__, .cell (some (.ref C_InvalidText)), csl_InvalidText___init__⟩)
    (q_InvalidText___init__ : PySem.W.clsIn K C_InvalidText = some cdC_InvalidText___init__)
    (m_InvalidText___init__ : PySem.W.mroIn K C_InvalidText (.ref C_InvalidText) = some true)
    (u_InvalidText___init__ : PySem.W.ks_superIn K C_InvalidText C_InvalidText "__init__" = some (some (.builtin "ValueError.__init__")))
    (v_InvalidText___init__ : PySem.W.subIn K (.ref C_InvalidText) (.type "ValueError") = some true)
    (s_hTT : PySem.W.subIn K (.ref C_InvalidText) (.ref C_InvalidText) = some true) :
    ∃ fd : FuncData, (∀ (s : Shared) (v : Value), BindsTo s fd ⟨[v], []⟩ [("_law_script", v)]) ∧ ∀ base : Heap, K.In base → base.Ns mainGlobals mg → Qs.FnQ l.prog w K mg base CX0 8 fa fd ["_law_script"] (spLaw K) := by
  have e := hfa.symm.trans (PySem.W.mg_of X G a_law)
  cases e
  have B : Bt mg t_MOST_HEIGHT C_Bounds := ⟨PySem.W.mg_none_of X G z_isinstance, PySem.W.mg_none_of X G z_int, PySem.W.mg_none_of X G z_bool, PySem.W.mg_none_of X G z_str, PySem.W.mg_none_of X G z_len, PySem.W.mg_none_of X G z_max, PySem.W.mg_none_of X G z_min, PySem.W.mg_none_of X G z_abs, PySem.W.mg_none_of X G z_repr, PySem.W.mg_none_of X G z_range, PySem.W.mg_of X G g_MOST_HEIGHT, PySem.W.mg_of X G n_Bounds⟩
  have T_Bounds : Cls K C_Bounds := ⟨pg_Bounds, hd_Bounds, po_Bounds, sa_Bounds⟩
  have Ty_Bounds : ∀ {H : Hp} {a dx : Addr} {fs : List (Str × V)}, H a = some (.ins C_Bounds dx fs) → TyX K H (.ref a) (.ref C_Bounds) := fun e => .base (.ins e T_Bounds ha_Bounds hn_Bounds ht_Bounds hm_Bounds)
  have F_Bounds___init__ := fun_mk (st := s_Bounds___init__) l_Bounds___init__ c_Bounds___init__ k_Bounds___init__
  have b_Bounds___init__ := F_Bounds___init__.binds (ps := ["self", "low", "high"]) fun _ _ _ _ _ _ us hl => match us, hl with | [_, _, _], _ => rfl
  have M_Bounds : Mk K C_Bounds f_Bounds___init__ := ⟨mk_Bounds, a_Bounds___init__, i_Bounds___init__, kp_Bounds⟩
  have F_Bounds___str__ := fun_mk (st := s_Bounds___str__) l_Bounds___str__ c_Bounds___str__ k_Bounds___str__
  have b_Bounds___str__ := F_Bounds___str__.binds (ps := ["self"]) fun _ _ _ _ _ _ us hl => match us, hl with | [_], _ => rfl
  have S_Bounds___str__ : Ow.Spec K C_Bounds "__str__" f_Bounds___str__ := ⟨a_Bounds___str__, i_Bounds___str__⟩
  have N_Bounds___str__ : Meth K C_Bounds "__str__" f_Bounds___str__ := ⟨a_Bounds___str__, i_Bounds___str__, k_Bounds___str__⟩
  have R_Bounds : ClX.CRead K C_Bounds (.type "type") := ⟨rd_Bounds, ga_Bounds⟩
  have F_Bounds_from_text := fun_mk (st := s_Bounds_from_text) l_Bounds_from_text c_Bounds_from_text k_Bounds_from_text
  have b_Bounds_from_text := F_Bounds_from_text.binds (ps := ["cls", "text"]) fun _ _ _ _ _ _ us hl => match us, hl with | [_, _], _ => rfl
  have CM_Bounds_from_text : ClX.CMet K C_Bounds (.type "type") "from_text" p_Bounds_from_text f_Bounds_from_text := ⟨a_Bounds_from_text, ⟨_, pr_Bounds_from_text⟩, fi_Bounds_from_text⟩
  have F_is_height := fun_mk (st := s_is_height) l_is_height c_is_height k_is_height
  have b_is_height := F_is_height.binds (ps := ["value"]) fun _ _ _ _ _ _ us hl => match us, hl with | [_], _ => rfl
  have F_number_of := fun_mk (st := s_number_of) l_number_of c_number_of k_number_of
  have b_number_of := F_number_of.binds (ps := ["word"]) fun _ _ _ _ _ _ us hl => match us, hl with | [_], _ => rfl
  have F_ends_of := fun_mk (st := s_ends_of) l_ends_of c_ends_of k_ends_of
  have b_ends_of := F_ends_of.binds (ps := ["text"]) fun _ _ _ _ _ _ us hl => match us, hl with | [_], _ => rfl
  have F__law_cell := fun_mk (st := s__law_cell) l__law_cell c__law_cell k__law_cell
  have b__law_cell := F__law_cell.binds (ps := ["_law_script", "_law_k"]) fun _ _ _ _ _ _ us hl => match us, hl with | [_, _], _ => rfl
  have F__law_box := fun_mk (st := s__law_box) l__law_box c__law_box k__law_box
  have b__law_box := F__law_box.binds (ps := ["_law_cell_here"]) fun _ _ _ _ _ _ us hl => match us, hl with | [_], _ => rfl
  have F__law_take := fun_mk (st := s__law_take) l__law_take c__law_take k__law_take
  have b__law_take := F__law_take.binds (ps := ["_law_box_here", "_law_many"]) fun _ _ _ _ _ _ us hl => match us, hl with | [_, _], _ => rfl
  have F__law_written := fun_mk (st := s__law_written) l__law_written c__law_written k__law_written
  have b__law_written := F__law_written.binds (ps := ["_law_number_here"]) fun _ _ _ _ _ _ us hl => match us, hl with | [_], _ => rfl
  have F__law_number := fun_mk (st := s__law_number) l__law_number c__law_number k__law_number
  have b__law_number := F__law_number.binds (ps := ["_law_word"]) fun _ _ _ _ _ _ us hl => match us, hl with | [_], _ => rfl
  have F__law_due := fun_mk (st := s__law_due) l__law_due c__law_due k__law_due
  have b__law_due := F__law_due.binds (ps := ["_law_text"]) fun _ _ _ _ _ _ us hl => match us, hl with | [_], _ => rfl
  have F__law_read := fun_mk (st := s__law_read) l__law_read c__law_read k__law_read
  have b__law_read := F__law_read.binds (ps := ["_law_text"]) fun _ _ _ _ _ _ us hl => match us, hl with | [_], _ => rfl
  have F_law := fun_mk (st := s_law) l_law c_law k_law
  have O_InvalidHeight : OexC K C_InvalidHeight := ⟨⟨_, _, _, _, _, _, _, _, _, _, _, _, _, _, _, xl_InvalidHeight, xr_InvalidHeight⟩, sa_InvalidHeight, eC_InvalidHeight, tc_InvalidHeight, kp_InvalidHeight⟩
  have U_InvalidHeight : Xs.SupT l.prog K mg C_InvalidHeight f_InvalidHeight___init__ "__init__" "InvalidHeight.__init__" (defArgs s_InvalidHeight___init__) (defBody s_InvalidHeight___init__) (defScope s_InvalidHeight___init__) _ := ⟨O_InvalidHeight, a_InvalidHeight___init__, t_InvalidHeight___init__, ⟨_, _, _, _, _, _, _, _, _, _, _, _, _, _, _, _, _, _, _, _, _, rfl, l_InvalidHeight___init__, c_InvalidHeight___init__, d_InvalidHeight___init__, f_2_InvalidHeight___init__, g_InvalidHeight___init__, e_InvalidHeight___init__, q_InvalidHeight___init__⟩, m_InvalidHeight___init__, u_InvalidHeight___init__, v_InvalidHeight___init__, PySem.W.mg_none_of X G z_super, tp_any, top_super⟩
  have O_InvalidBounds : OexC K C_InvalidBounds := ⟨⟨_, _, _, _, _, _, _, _, _, _, _, _, _, _, _, xl_InvalidBounds, xr_InvalidBounds⟩, sa_InvalidBounds, eC_InvalidBounds, tc_InvalidBounds, kp_InvalidBounds⟩
  have U_InvalidBounds : Xs.SupT l.prog K mg C_InvalidBounds f_InvalidBounds___init__ "__init__" "InvalidBounds.__init__" (defArgs s_InvalidBounds___init__) (defBody s_InvalidBounds___init__) (defScope s_InvalidBounds___init__) _ := ⟨O_InvalidBounds, a_InvalidBounds___init__, t_InvalidBounds___init__, ⟨_, _, _, _, _, _, _, _, _, _, _, _, _, _, _, _, _, _, _, _, _, rfl, l_InvalidBounds___init__, c_InvalidBounds___init__, d_InvalidBounds___init__, f_2_InvalidBounds___init__, g_InvalidBounds___init__, e_InvalidBounds___init__, q_InvalidBounds___init__⟩, m_InvalidBounds___init__, u_InvalidBounds___init__, v_InvalidBounds___init__, PySem.W.mg_none_of X G z_super, tp_any, top_super⟩
  have O_InvalidText : OexC K C_InvalidText := ⟨⟨_, _, _, _, _, _, _, _, _, _, _, _, _, _, _, xl_InvalidText, xr_InvalidText⟩, sa_InvalidText, eC_InvalidText, tc_InvalidText, kp_InvalidText⟩
  have U_InvalidText : Xs.SupT l.prog K mg C_InvalidText f_InvalidText___init__ "__init__" "InvalidText.__init__" (defArgs s_InvalidText___init__) (defBody s_InvalidText___init__) (defScope s_InvalidText___init__) _ := ⟨O_InvalidText, a_InvalidText___init__, t_InvalidText___init__, ⟨_, _, _, _, _, _, _, _, _, _, _, _, _, _, _, _, _, _, _, _, _, rfl, l_InvalidText___init__, c_InvalidText___init__, d_InvalidText___init__, f_2_InvalidText___init__, g_InvalidText___init__, e_InvalidText___init__, q_InvalidText___init__⟩, m_InvalidText___init__, u_InvalidText___init__, v_InvalidText___init__, PySem.W.mg_none_of X G z_super, tp_any, top_super⟩
  have hTT : PySem.W.exmOne K (.ref C_InvalidText) (.ref C_InvalidText) = some true := Xe.exm_sub eC_InvalidText ic_InvalidText tc_InvalidText s_hTT
  have T : BdK K C_Bounds := ⟨T_Bounds, na_Bounds_low, na_Bounds_high⟩
  refine ⟨PySem.W.fnOf "law" "law" (defArgs s_law) (defBody s_law) (defScope s_law) .none kV_law dc_law pm_law an_law cd_law ct_law, fun s v => .of_eq rfl, fun base _ _ => ?_⟩
  have X_InvalidHeight : Xs.ExT l.prog w K mg base "InvalidHeight" C_InvalidHeight ["value"] := ⟨PySem.W.mg_of X G n_InvalidHeight, O_InvalidHeight, ⟨ga_InvalidHeight, gg_InvalidHeight, eC_InvalidHeight, hd_InvalidHeight⟩, Xe.no_of1 na_InvalidHeight_value, ⟨_, _, a_InvalidHeight___init__, t_InvalidHeight___init__, Xs.ok_init1 U_InvalidHeight ss_InvalidHeight___init__ (fun env => ⟨_, rfl⟩) na_InvalidHeight_value (by decide) (by decide), Xe.sup_binds fun us hl => match us, hl with | [_, _], _ => rfl⟩⟩
  have X_InvalidBounds : Xs.ExT l.prog w K mg base "InvalidBounds" C_InvalidBounds ["low", "high"] := ⟨PySem.W.mg_of X G n_InvalidBounds, O_InvalidBounds, ⟨ga_InvalidBounds, gg_InvalidBounds, eC_InvalidBounds, hd_InvalidBounds⟩, Xe.no_of2 na_InvalidBounds_low na_InvalidBounds_high, ⟨_, _, a_InvalidBounds___init__, t_InvalidBounds___init__, Xs.ok_init2 U_InvalidBounds ss_InvalidBounds___init__ (fun env => ⟨_, rfl⟩) na_InvalidBounds_low na_InvalidBounds_high (by decide) (by decide) (by decide) (by decide), Xe.sup_binds fun us hl => match us, hl with | [_, _, _], _ => rfl⟩⟩
  have X_InvalidText : Xs.ExT l.prog w K mg base "InvalidText" C_InvalidText ["value"] := ⟨PySem.W.mg_of X G n_InvalidText, O_InvalidText, ⟨ga_InvalidText, gg_InvalidText, eC_InvalidText, hd_InvalidText⟩, Xe.no_of1 na_InvalidText_value, ⟨_, _, a_InvalidText___init__, t_InvalidText___init__, Xs.ok_init1 U_InvalidText ss_InvalidText___init__ (fun env => ⟨_, rfl⟩) na_InvalidText_value (by decide) (by decide), Xe.sup_binds fun us hl => match us, hl with | [_, _], _ => rfl⟩⟩
  have G_is_height : Vc.FnG l.prog w K mg base CX0 1 "is_height" ["value"] (sp_is_height K) := ⟨_, _, ok_is_height F_is_height B, PySem.W.mg_of X G a_is_height, k_is_height, b_is_height⟩
  have G_number_of : Vc.FnG l.prog w K mg base CX0 2 "number_of" ["word"] (sp_number_of) := ⟨_, _, ok_number_of F_number_of B G_is_height, PySem.W.mg_of X G a_number_of, k_number_of, b_number_of⟩
  have G_ends_of : Vc.FnG l.prog w K mg base CX0 3 "ends_of" ["text"] (sp_ends_of K) := ⟨_, _, ok_ends_of F_ends_of B G_number_of, PySem.W.mg_of X G a_ends_of, k_ends_of, b_ends_of⟩
  have I_Bounds := ok_binit F_Bounds___init__ B T G_is_height X_InvalidHeight X_InvalidBounds
  have FB := Ow.frC I_Bounds b_Bounds___init__
  have I_ft := ok_from_text F_Bounds_from_text B M_Bounds FB X_InvalidText G_ends_of
  have FF := Ow.frC I_ft b_Bounds_from_text
  have FS := Ow.frX (P := l.prog) (w := w) (mg := mg) (base := base) (ok_bstr F_Bounds___str__ T) b_Bounds___str__
  have G__law_written : Vc.FnG l.prog w K mg base CX0 1 "_law_written" ["_law_number_here"] (sp_written) := ⟨_, _, ok_written F__law_written B, PySem.W.mg_of X G a__law_written, k__law_written, b__law_written⟩
  have G__law_number : Vc.FnG l.prog w K mg base CX0 2 "_law_number" ["_law_word"] (sp_lnum) := ⟨_, _, ok_lnum F__law_number B G__law_written, PySem.W.mg_of X G a__law_number, k__law_number, b__law_number⟩
  have G__law_due : Vc.FnG l.prog w K mg base CX0 3 "_law_due" ["_law_text"] (sp_ldue) := ⟨_, _, ok_ldue F__law_due G__law_number, PySem.W.mg_of X G a__law_due, k__law_due, b__law_due⟩
  have G__law_read : Qs.FnGQ l.prog w K mg base CX0 6 "_law_read" ["_law_text"] (sp_read K) := ⟨_, _, ok_read F__law_read B T R_Bounds CM_Bounds_from_text FF X_InvalidText hTT, PySem.W.mg_of X G a__law_read, k__law_read, b__law_read⟩
  exact ok_law F_law B M_Bounds FB S_Bounds___str__ FS ⟨_, _, ok_cell F__law_cell B, PySem.W.mg_of X G a__law_cell, k__law_cell, b__law_cell⟩ ⟨_, _, ok_box F__law_box B, PySem.W.mg_of X G a__law_box, k__law_box, b__law_box⟩ ⟨_, _, ok_take F__law_take B, PySem.W.mg_of X G a__law_take, k__law_take, b__law_take⟩ G__law_written G__law_due G__law_read
theorem walk {l : PySem.W.OpenLaw} {q : Program} {loose : List Str} {XP : (Str → Option Value) → Heap → Prop} {YP : World → Heap → Prop} {d : DefRec} {K : Params → PySem.W.Frag} (hn : l.most = some 63) (hdf : d.params.defaults = [])
    (hY : ∀ (w : World) (h : Heap), YP w h → (K w.params).In h)
    (F : ∀ (w : World) (mg : Str → Option Value) (fa : Addr) (h : Heap), (K w.params).In h → h.Ns mainGlobals mg → mg d.name = some (.ref fa) →
      ∃ fd : FuncData, (∀ (s : Shared) (u : Value), BindsTo s fd ⟨[u], []⟩ [("_law_script", u)]) ∧ ∀ base : Heap, (K w.params).In base → base.Ns mainGlobals mg → Qs.FnQ l.prog w (K w.params) mg base CX0 8 fa fd ["_law_script"] (spLaw (K w.params))) :
    PySem.W.WalkO q loose XP YP l.row.toRowW d [] (fun f vs => PySem.call f vs) :=
  Qs.walk_ofQ (n := 63) (k := 8) (x := "_law_script") (CX := fun _ => CX0) (sp := fun w => spLaw (K w.params)) hn (by decide) hdf ⟨rfl, by decide, by decide⟩ hY F (fun _ _ a ns hl _ hS => ⟨a, ns, rfl, hS, hl, fun _ => rfl⟩) fun _ _ _ _ _ z => z
end K03
open PySem PySem.W PyProof.Rows
set_option maxRecDepth 100000 in
set_option maxHeartbeats 0 in
theorem PySem.Challenge.cw_surehollows_k03_bounds_as_text_holds : PySem.Challenge.rw_surehollows_k03_bounds_as_text.Holds := by
  w_on; o_law; k_head; (case hw => w_witness2)
  k_fill
  refine K03.walk (l := PySem.Challenge.rw_surehollows_k03_bounds_as_text) rfl rfl (fun w h Y => PySem.W.kIn_of Y) ?F
  case F =>
    intro w mg fa h KX G hmg
    refine' K03.all_mk KX G hmg ?z_isinstance ?z_int ?z_bool ?z_str ?z_len ?z_max ?z_min ?z_abs ?z_repr ?z_range ?g_MOST_HEIGHT ?n_Bounds ?pg_Bounds ?hd_Bounds ?po_Bounds ?sa_Bounds ?ha_Bounds ?hn_Bounds ?ht_Bounds ?hm_Bounds ?ic_Bounds ?tc_Bounds ?na_Bounds_low ?na_Bounds_high ?mk_Bounds ?kp_Bounds ?sf_Bounds ?a_Bounds___init__ ?i_Bounds___init__ ?l_Bounds___init__ ?c_Bounds___init__ ?k_Bounds___init__ ?a_Bounds___str__ ?i_Bounds___str__ ?l_Bounds___str__ ?c_Bounds___str__ ?k_Bounds___str__ ?rd_Bounds ?ga_Bounds ?a_Bounds_from_text ?pr_Bounds_from_text ?fi_Bounds_from_text ?l_Bounds_from_text ?c_Bounds_from_text ?k_Bounds_from_text ?a_is_height ?l_is_height ?c_is_height ?k_is_height ?a_number_of ?l_number_of ?c_number_of ?k_number_of ?a_ends_of ?l_ends_of ?c_ends_of ?k_ends_of ?a__law_cell ?l__law_cell ?c__law_cell ?k__law_cell ?a__law_box ?l__law_box ?c__law_box ?k__law_box ?a__law_take ?l__law_take ?c__law_take ?k__law_take ?a__law_written ?l__law_written ?c__law_written ?k__law_written ?a__law_number ?l__law_number ?c__law_number ?k__law_number ?a__law_due ?l__law_due ?c__law_due ?k__law_due ?a__law_read ?l__law_read ?c__law_read ?k__law_read ?a_law ?l_law ?c_law ?k_law ?z_super ?tp_any ?top_super ?n_InvalidHeight ?xl_InvalidHeight ?xr_InvalidHeight ?sa_InvalidHeight ?eC_InvalidHeight ?tc_InvalidHeight ?ic_InvalidHeight ?kp_InvalidHeight ?ga_InvalidHeight ?gg_InvalidHeight ?hd_InvalidHeight ?na_InvalidHeight_value ?a_InvalidHeight___init__ ?t_InvalidHeight___init__ ?l_InvalidHeight___init__ ?c_InvalidHeight___init__ ?d_InvalidHeight___init__ ?f_2_InvalidHeight___init__ ?g_InvalidHeight___init__ ?e_InvalidHeight___init__ ?q_InvalidHeight___init__ ?m_InvalidHeight___init__ ?u_InvalidHeight___init__ ?v_InvalidHeight___init__ ?n_InvalidBounds ?xl_InvalidBounds ?xr_InvalidBounds ?sa_InvalidBounds ?eC_InvalidBounds ?tc_InvalidBounds ?ic_InvalidBounds ?kp_InvalidBounds ?ga_InvalidBounds ?gg_InvalidBounds ?hd_InvalidBounds ?na_InvalidBounds_low ?na_InvalidBounds_high ?a_InvalidBounds___init__ ?t_InvalidBounds___init__ ?l_InvalidBounds___init__ ?c_InvalidBounds___init__ ?d_InvalidBounds___init__ ?f_2_InvalidBounds___init__ ?g_InvalidBounds___init__ ?e_InvalidBounds___init__ ?q_InvalidBounds___init__ ?m_InvalidBounds___init__ ?u_InvalidBounds___init__ ?v_InvalidBounds___init__ ?n_InvalidText ?xl_InvalidText ?xr_InvalidText ?sa_InvalidText ?eC_InvalidText ?tc_InvalidText ?ic_InvalidText ?kp_InvalidText ?ga_InvalidText ?gg_InvalidText ?hd_InvalidText ?na_InvalidText_value ?a_InvalidText___init__ ?t_InvalidText___init__ ?l_InvalidText___init__ ?c_InvalidText___init__ ?d_InvalidText___init__ ?f_2_InvalidText___init__ ?g_InvalidText___init__ ?e_InvalidText___init__ ?q_InvalidText___init__ ?m_InvalidText___init__ ?u_InvalidText___init__ ?v_InvalidText___init__ ?s_hTT
    (case z_isinstance => k_is)
    (case z_int => k_is)
    (case z_bool => k_is)
    (case z_str => k_is)
    (case z_len => k_is)
    (case z_max => k_is)
    (case z_min => k_is)
    (case z_abs => k_is)
    (case z_repr => k_is)
    (case z_range => k_is)
    (case g_MOST_HEIGHT => k_is)
    (case n_Bounds => k_is)
    (case pg_Bounds => k_is)
    (case hd_Bounds => k_is)
    (case po_Bounds => k_is)
    (case sa_Bounds => k_is)
    (case ha_Bounds => k_is)
    (case hn_Bounds => k_is)
    (case ht_Bounds => k_is)
    (case hm_Bounds => k_is)
    (case ic_Bounds => k_is)
    (case tc_Bounds => k_is)
    (case na_Bounds_low => k_is)
    (case na_Bounds_high => k_is)
    (case mk_Bounds => k_is)
    (case kp_Bounds => k_is)
    (case sf_Bounds => k_is)
    (case a_Bounds___init__ => k_is)
    (case i_Bounds___init__ => k_is)
    (case l_Bounds___init__ => k_is)
    (case c_Bounds___init__ => k_is)
    (case k_Bounds___init__ => k_is)
    (case a_Bounds___str__ => k_is)
    (case i_Bounds___str__ => k_is)
    (case l_Bounds___str__ => k_is)
    (case c_Bounds___str__ => k_is)
    (case k_Bounds___str__ => k_is)
    (case rd_Bounds => k_is)
    (case ga_Bounds => k_is)
    (case a_Bounds_from_text => k_is)
    (case pr_Bounds_from_text => k_is)
    (case fi_Bounds_from_text => k_is)
    (case l_Bounds_from_text => k_is)
    (case c_Bounds_from_text => k_is)
    (case k_Bounds_from_text => k_is)
    (case a_is_height => k_is)
    (case l_is_height => k_is)
    (case c_is_height => k_is)
    (case k_is_height => k_is)
    (case a_number_of => k_is)
    (case l_number_of => k_is)
    (case c_number_of => k_is)
    (case k_number_of => k_is)
    (case a_ends_of => k_is)
    (case l_ends_of => k_is)
    (case c_ends_of => k_is)
    (case k_ends_of => k_is)
    (case a__law_cell => k_is)
    (case l__law_cell => k_is)
    (case c__law_cell => k_is)
    (case k__law_cell => k_is)
    (case a__law_box => k_is)
    (case l__law_box => k_is)
    (case c__law_box => k_is)
    (case k__law_box => k_is)
    (case a__law_take => k_is)
    (case l__law_take => k_is)
    (case c__law_take => k_is)
    (case k__law_take => k_is)
    (case a__law_written => k_is)
    (case l__law_written => k_is)
    (case c__law_written => k_is)
    (case k__law_written => k_is)
    (case a__law_number => k_is)
    (case l__law_number => k_is)
    (case c__law_number => k_is)
    (case k__law_number => k_is)
    (case a__law_due => k_is)
    (case l__law_due => k_is)
    (case c__law_due => k_is)
    (case k__law_due => k_is)
    (case a__law_read => k_is)
    (case l__law_read => k_is)
    (case c__law_read => k_is)
    (case k__law_read => k_is)
    (case a_law => k_is)
    (case l_law => k_is)
    (case c_law => k_is)
    (case k_law => k_is)
    (case z_super => k_is)
    (case tp_any => k_is)
    (case top_super => decide +kernel)
    (case n_InvalidHeight => k_is)
    (case xl_InvalidHeight => k_is)
    (case xr_InvalidHeight => decide +kernel)
    (case sa_InvalidHeight => k_is)
    (case eC_InvalidHeight => k_is)
    (case tc_InvalidHeight => k_is)
    (case ic_InvalidHeight => k_is)
    (case kp_InvalidHeight => k_is)
    (case ga_InvalidHeight => k_is)
    (case gg_InvalidHeight => k_is)
    (case hd_InvalidHeight => k_is)
    (case na_InvalidHeight_value => k_is)
    (case a_InvalidHeight___init__ => k_is)
    (case t_InvalidHeight___init__ => k_is)
    (case l_InvalidHeight___init__ => k_is)
    (case c_InvalidHeight___init__ => k_is)
    (case d_InvalidHeight___init__ => k_is)
    (case f_2_InvalidHeight___init__ => exact rfl)
    (case g_InvalidHeight___init__ => decide +kernel)
    (case e_InvalidHeight___init__ => k_is)
    (case q_InvalidHeight___init__ => k_is)
    (case m_InvalidHeight___init__ => k_is)
    (case u_InvalidHeight___init__ => ks_is)
    (case v_InvalidHeight___init__ => k_is)
    (case n_InvalidBounds => k_is)
    (case xl_InvalidBounds => k_is)
    (case xr_InvalidBounds => decide +kernel)
    (case sa_InvalidBounds => k_is)
    (case eC_InvalidBounds => k_is)
    (case tc_InvalidBounds => k_is)
    (case ic_InvalidBounds => k_is)
    (case kp_InvalidBounds => k_is)
    (case ga_InvalidBounds => k_is)
    (case gg_InvalidBounds => k_is)
    (case hd_InvalidBounds => k_is)
    (case na_InvalidBounds_low => k_is)
    (case na_InvalidBounds_high => k_is)
    (case a_InvalidBounds___init__ => k_is)
    (case t_InvalidBounds___init__ => k_is)
    (case l_InvalidBounds___init__ => k_is)
    (case c_InvalidBounds___init__ => k_is)
    (case d_InvalidBounds___init__ => k_is)
    (case f_2_InvalidBounds___init__ => exact rfl)
    (case g_InvalidBounds___init__ => decide +kernel)
    (case e_InvalidBounds___init__ => k_is)
    (case q_InvalidBounds___init__ => k_is)
    (case m_InvalidBounds___init__ => k_is)
    (case u_InvalidBounds___init__ => ks_is)
    (case v_InvalidBounds___init__ => k_is)
    (case n_InvalidText => k_is)
    (case xl_InvalidText => k_is)
    (case xr_InvalidText => decide +kernel)
    (case sa_InvalidText => k_is)
    (case eC_InvalidText => k_is)
    (case tc_InvalidText => k_is)
    (case ic_InvalidText => k_is)
    (case kp_InvalidText => k_is)
    (case ga_InvalidText => k_is)
    (case gg_InvalidText => k_is)
    (case hd_InvalidText => k_is)
    (case na_InvalidText_value => k_is)
    (case a_InvalidText___init__ => k_is)
    (case t_InvalidText___init__ => k_is)
    (case l_InvalidText___init__ => k_is)
    (case c_InvalidText___init__ => k_is)
    (case d_InvalidText___init__ => k_is)
    (case f_2_InvalidText___init__ => exact rfl)
    (case g_InvalidText___init__ => decide +kernel)
    (case e_InvalidText___init__ => k_is)
    (case q_InvalidText___init__ => k_is)
    (case m_InvalidText___init__ => k_is)
    (case u_InvalidText___init__ => ks_is)
    (case v_InvalidText___init__ => k_is)
    (case s_hTT => first | rfl | k_is)
#print axioms PySem.Challenge.cw_surehollows_k03_bounds_as_text_holds

