import PyProof.Rows.All
import Wide.All
import OpenK.AllK
import Wide.FinOn
import HandS.ForMost
import HandS.Conv
import HandS.Star
import HandS.IsInst
import HandS.ClsMeth
import HandS.Defaults
import HandS.MakeKwOnly
import HandS.Zip
import HandS.Deep
import HandS.Evl
import HandS.HeadHook2
import HandS.HeadEnd
import KE.KSuper
import HandS.Nested
import HandS.Head0
import HandS.Head1
import HandS.Head2
import HandS.HeadHook1
import KE.KStateDown
import KE.KDictZip
import HandS.OwnEq
import HandS.Walk
import PyProof.AssignAttr
import HandS.TupAny
import PySem.Challenge.RW_evenrules_k64_whole_try_rules_and_turn_r
set_option Elab.async false
set_option linter.all false
set_option maxRecDepth 100000
set_option maxHeartbeats 8000000
namespace M
open PySem PySem.Spec PyProof.Rows L2 Evl

theorem Ex.at {H H' : Hp} (e : Ex H H') {a : Addr} {o : HO} (h : H a = some o) : H' a = some o := e a o h

/-! ### what is known of an instance -/
/-- the field f of the instance at a is v -/
def Fld (K : PySem.W.Frag) (H : Hp) (a : Addr) (f : Str) (v : V) : Prop := ∃ C dx fs, H a = some (.ins C dx fs) ∧ Cls K C ∧ NoAttr K C f ∧ fs.lookup f = some v
/-- an instance of C without a field m -/
def Ins (H : Hp) (a C : Addr) (m : Str) : Prop := ∃ dx fs, H a = some (.ins C dx fs) ∧ fs.lookup m = none
theorem Fld.mono {K : PySem.W.Frag} {H H' : Hp} {a : Addr} {f : Str} {v : V} (e : Ex H H') (h : Fld K H a f v) : Fld K H' a f v := by
  obtain ⟨C, dx, fs, h, r⟩ := h
  exact ⟨C, dx, fs, e _ _ h, r⟩
theorem Ins.mono {H H' : Hp} {a C : Addr} {m : Str} (e : Ex H H') (h : Ins H a C m) : Ins H' a C m := by
  obtain ⟨dx, fs, h, r⟩ := h
  exact ⟨dx, fs, e _ _ h, r⟩

/-! ### readings, step by step -/
section
variable {K : PySem.W.Frag} {σ : L2.St} {H : Hp} {ta tb tc te tx : TE} {t u : TT} {x y z v w : V} {r r' : R2} {Q : VK} {D : Ends} {ts tu : TS} {g : TG} {tr : TA}
theorem k_var {i : Nat} (h : σ[i]? = some (some v)) (q : Q v H) : tVar i σ H Q := ⟨v, h, q⟩
theorem k_c (q : Q v H) : tC v σ H Q := q
theorem k_fld {f : Str} (h : ta σ H fun x H1 => ∃ a v, x = .ref a ∧ Fld K H1 a f v ∧ Q v H1) : tFld K ta f σ H Q := by
  have e : (fun x H1 => ∃ a v, x = V.ref a ∧ Fld K H1 a f v ∧ Q v H1) = (fun x H1 => ∃ a C dx fs v, x = .ref a ∧ H1 a = some (.ins C dx fs) ∧ Cls K C ∧ NoAttr K C f ∧ fs.lookup f = some v ∧ Q v H1) := by
    funext x H1
    apply propext
    constructor
    · rintro ⟨a, v, e, ⟨C, dx, fs, h1, h2, h3, h4⟩, q⟩
      exact ⟨a, C, dx, fs, v, e, h1, h2, h3, h4, q⟩
    · rintro ⟨a, C, dx, fs, v, e, h1, h2, h3, h4, q⟩
      exact ⟨a, v, e, ⟨C, dx, fs, h1, h2, h3, h4⟩, q⟩
  show ta σ H _
  rw [← e]
  exact h
theorem k_fld2 {F : V → Prop} {a : Addr} {f : Str} {v : V} (h : Fld K H a f v) (q : F v) : ∃ a' v', V.ref a = .ref a' ∧ Fld K H a' f v' ∧ F v' := ⟨a, v, rfl, h, q⟩
theorem k_op (h : ta σ H fun x H1 => tb σ H1 fun y H2 => r x y H2 Q) : tOp r ta tb σ H Q := h
theorem k_un {r : V → Hp → VK → Prop} (h : ta σ H fun x H1 => r x H1 Q) : tUn r ta σ H Q := h
theorem k_neg {i : Int} (q : Q (.int (-i)) H) : rU (fun i => .int (-i)) (.int i) H Q := ⟨i, rfl, q⟩
theorem k_add {i j : Int} (q : Q (.int (i + j)) H) : rI0 (fun i j => .int (i + j)) (.int i) (.int j) H Q := ⟨i, j, rfl, rfl, q⟩
theorem k_sub {i j : Int} (q : Q (.int (i - j)) H) : rI0 (fun i j => .int (i - j)) (.int i) (.int j) H Q := ⟨i, j, rfl, rfl, q⟩
theorem k_lt {i j : Int} (q : Q (.bl (decide (i < j))) H) : rI0 (fun i j => .bl (decide (i < j))) (.int i) (.int j) H Q := ⟨i, j, rfl, rfl, q⟩
theorem k_le {i j : Int} (q : Q (.bl (decide (i ≤ j))) H) : rI0 (fun i j => .bl (decide (i ≤ j))) (.int i) (.int j) H Q := ⟨i, j, rfl, rfl, q⟩
theorem k_gt {i j : Int} (q : Q (.bl (decide (j < i))) H) : rI0 (fun i j => .bl (decide (j < i))) (.int i) (.int j) H Q := ⟨i, j, rfl, rfl, q⟩
theorem k_ge {i j : Int} (q : Q (.bl (decide (j ≤ i))) H) : rI0 (fun i j => .bl (decide (j ≤ i))) (.int i) (.int j) H Q := ⟨i, j, rfl, rfl, q⟩
theorem k_mul {i j : Int} (c : CMul i j) (q : Q (.int (i * j)) H) : rI CMul (fun i j => .int (i * j)) (.int i) (.int j) H Q := ⟨i, j, rfl, rfl, c, q⟩
theorem k_fdiv {i j : Int} (c : 0 < j ∧ j < 1073741824) (q : Q (.int (i / j)) H) : rI CDivN (fun i j => .int (i.fdiv j)) (.int i) (.int j) H Q :=
  ⟨i, j, rfl, rfl, ⟨by omega, by omega⟩, by
    show Q (.int (i.fdiv j)) H
    rw [Int.fdiv_eq_ediv_of_nonneg _ (by omega)]
    exact q⟩
theorem k_mod {i j : Int} (c : 0 < j) (q : Q (.int (i % j)) H) : rI (fun _ j => j ≠ 0) (fun i j => .int (i.fmod j)) (.int i) (.int j) H Q :=
  ⟨i, j, rfl, rfl, by omega, by
    show Q (.int (i.fmod j)) H
    rw [Int.fmod_eq_emod_of_nonneg _ (by omega)]
    exact q⟩
theorem k_pow {i j : Int} (c : CPow i j) (q : Q (.int (i ^ j.toNat)) H) : rI CPow (fun i j => .int (i ^ j.toNat)) (.int i) (.int j) H Q := ⟨i, j, rfl, rfl, c, q⟩
theorem k_eq (h : scal x y = true) (q : Q (.bl (decide (x = y))) H) : rEq x y H Q := ⟨h, q⟩
theorem k_ne (h : scal x y = true) (q : Q (.bl (!decide (x = y))) H) : rNe x y H Q := ⟨h, q⟩
theorem k_eqI {i j : Int} (q : Q (.bl (decide (i = j))) H) : rEq (.int i) (.int j) H Q := ⟨rfl, by
  have e : decide (V.int i = V.int j) = decide (i = j) := by
    by_cases h : i = j
    · rw [h, decide_eq_true rfl, decide_eq_true rfl]
    · rw [decide_eq_false h, decide_eq_false (fun z => h (V.int.inj z))]
  rw [e]
  exact q⟩
theorem k_eqT {i j : Str} (q : Q (.bl (decide (i = j))) H) : rEq (.str i) (.str j) H Q := ⟨rfl, by
  have e : decide (V.str i = V.str j) = decide (i = j) := by
    by_cases h : i = j
    · rw [h, decide_eq_true rfl, decide_eq_true rfl]
    · rw [decide_eq_false h, decide_eq_false (fun z => h (V.str.inj z))]
  rw [e]
  exact q⟩
theorem k_neI {i j : Int} (q : Q (.bl (!decide (i = j))) H) : rNe (.int i) (.int j) H Q := ⟨rfl, by
  have e : decide (V.int i = V.int j) = decide (i = j) := by
    by_cases h : i = j
    · rw [h, decide_eq_true rfl, decide_eq_true rfl]
    · rw [decide_eq_false h, decide_eq_false (fun z => h (V.int.inj z))]
  rw [e]
  exact q⟩
/-- is None -/
def rIsN : R2 := fun x y H Q => y = .non ∧ Q (.bl (decide (x = .non))) H
def rNotN : R2 := fun x y H Q => y = .non ∧ Q (.bl (!decide (x = .non))) H
theorem k_isN (q : Q (.bl (decide (x = .non))) H) : rIsN x .non H Q := ⟨rfl, q⟩
theorem k_isN_int {i : Int} (q : Q (.bl false) H) : rIsN (.int i) .non H Q := ⟨rfl, q⟩
theorem k_isN_ref {i : Addr} (q : Q (.bl false) H) : rIsN (.ref i) .non H Q := ⟨rfl, q⟩
theorem k_isN_non (q : Q (.bl true) H) : rIsN .non .non H Q := ⟨rfl, q⟩
theorem k_notN_int {i : Int} (q : Q (.bl true) H) : rNotN (.int i) .non H Q := ⟨rfl, q⟩
theorem k_notN_ref {i : Addr} (q : Q (.bl true) H) : rNotN (.ref i) .non H Q := ⟨rfl, q⟩
theorem k_notN_non (q : Q (.bl false) H) : rNotN .non .non H Q := ⟨rfl, q⟩
theorem k_ixT {p : Addr} {xs : List V} {i : Int} (h : SqT K H p xs) (ha : atI xs i = some v) (q : Q v H) : rIxT K (.ref p) (.int i) H Q := ⟨p, xs, i, v, rfl, rfl, h, ha, q⟩
theorem k_ixL {p : Addr} {xs : List V} {i : Int} (h : SqL K H p xs) (ha : atI xs i = some v) (q : Q v H) : rIxL K (.ref p) (.int i) H Q := ⟨p, xs, i, v, rfl, rfl, h, ha, q⟩
/-! tests -/
variable {QT : Bool → Hp → Prop} {b : Bool}
theorem k_test (h : te σ H fun x H' => ∃ k, x = .bl k ∧ QT k H') : tTest te σ H QT := h
theorem k_B (h : te σ H fun x H' => ∃ k, x = .bl k ∧ QT k H') : tB te σ H QT := h
theorem k_bl (q : QT b H) : ∃ k, V.bl b = .bl k ∧ QT k H := ⟨b, rfl, q⟩
theorem k_not (h : t σ H fun c H1 => QT (!c) H1) : tNot t σ H QT := h
theorem k_notV (h : ta σ H fun x H1 => ∃ c, x = .bl c ∧ Q (.bl (!c)) H1) : tNotV ta σ H Q := h
theorem k_and (h : t σ H fun c H1 => if c = true then u σ H1 QT else QT false H1) : tAnd t u σ H QT := h
theorem k_or (h : t σ H fun c H1 => if c = true then QT true H1 else u σ H1 QT) : tOr t u σ H QT := h
theorem k_andV (h : ta σ H fun x H1 => ∃ c, x = .bl c ∧ if c = true then tb σ H1 Q else Q (.bl false) H1) : tAndV ta tb σ H Q := h
theorem k_orV (h : ta σ H fun x H1 => ∃ c, x = .bl c ∧ if c = true then Q (.bl true) H1 else tb σ H1 Q) : tOrV ta tb σ H Q := h
theorem k_blif {A B : Prop} (q : if b = true then A else B) : ∃ k, V.bl b = .bl k ∧ if k = true then A else B := ⟨b, rfl, q⟩
theorem k_blV {f : Bool → Bool} (q : Q (.bl (f b)) H) : ∃ k, V.bl b = .bl k ∧ Q (.bl (f k)) H := ⟨b, rfl, q⟩
theorem k_if (h : t σ H fun c H1 => if c = true then ta σ H1 Q else tb σ H1 Q) : tIf t ta tb σ H Q := h
theorem k_chain (h : ta σ H fun x H1 => tb σ H1 fun y H2 => r x y H2 fun z H3 => ∃ k, z = .bl k ∧ (if k = true then tc σ H3 fun w' H4 => r' y w' H4 Q else Q (.bl false) H3)) : tChain r r' ta tb tc σ H Q := h
theorem k_dec {P A B : Prop} [Decidable P] (h1 : P → A) (h2 : ¬ P → B) : if decide P = true then A else B := by
  by_cases h : P
  · rw [decide_eq_true h]
    exact iteT (h1 h)
  · rw [decide_eq_false h]
    exact iteF (h2 h)
theorem k_ndec {P A B : Prop} [Decidable P] (h1 : ¬ P → A) (h2 : P → B) : if (!decide P) = true then A else B := by
  by_cases h : P
  · rw [decide_eq_true h]
    exact iteF (h2 h)
  · rw [decide_eq_false h]
    exact iteT (h1 h)
theorem k_yes {P A B : Prop} [Decidable P] (h : P) (q : A) : if decide P = true then A else B := by
  rw [decide_eq_true h]
  exact iteT q
theorem k_no {P A B : Prop} [Decidable P] (h : ¬ P) (q : B) : if decide P = true then A else B := by
  rw [decide_eq_false h]
  exact iteF q
theorem k_case {A B : Prop} (h1 : b = true → A) (h2 : b = false → B) : if b = true then A else B := by
  cases b with
  | true => exact iteT (h1 rfl)
  | false => exact iteF (h2 rfl)
/-! arguments -/
variable {QA : List V → Hp → Prop}
theorem k_nil (q : QA [] H) : tNil σ H QA := q
theorem k_cons (h : ta σ H fun x H1 => tr σ H1 fun xs H2 => QA (x :: xs) H2) : tCons ta tr σ H QA := h
/-! displays: the new object, the heap grown -/
/-- a new object of the items xs -/
def NewK (mk : List V → HO) (xs : List V) (H1 : Hp) (Q : VK) : Prop := xs.length ≤ sizeLine ∧ ∀ p, H1 p = none → Q (.ref p) (upd H1 p (mk xs))
theorem k_tup (h : tr σ H fun xs H1 => NewK .tup xs H1 Q) : tTup tr σ H Q := h
theorem k_lst (h : tr σ H fun xs H1 => NewK .lst xs H1 Q) : tLst tr σ H Q := h
theorem k_new {mk : List V → HO} {xs : List V} (hn : xs.length ≤ sizeLine) (h : ∀ (p : Addr) (H' : Hp), H p = none → Ex H H' → H' p = some (mk xs) → Q (.ref p) H') : NewK mk xs H Q :=
  ⟨hn, fun p hp => h p _ hp (Ex.new hp) upd_same⟩
theorem k_new1 {o : HO} (h : ∀ (p : Addr) (H' : Hp), H p = none → Ex H H' → H' p = some o → Q (.ref p) H') : ∀ p, H p = none → Q (.ref p) (upd H p o) :=
  fun p hp => h p _ hp (Ex.new hp) upd_same
/-! calls -/
theorem k_call {sp : Sp} {E : XK} (h : tr σ H fun vs H1 => sp vs H1 Q E) : tCall sp [] E tr σ H Q := by
  have e : (fun vs H1 => sp (vs ++ []) H1 Q E) = (fun vs H1 => sp vs H1 Q E) := by
    funext vs H1
    rw [List.append_nil]
  show tr σ H _
  rw [e]
  exact h
theorem k_meth {C : Addr} {m : Str} {sp : Sp} {E : XK} (h : ta σ H fun x H1 => ∃ a, x = .ref a ∧ Ins H1 a C m ∧ tr σ H1 fun vs H2 => sp (x :: vs) H2 Q E) : tMeth C m sp [] E ta tr σ H Q := by
  have e : (fun x H1 => ∃ a, x = V.ref a ∧ Ins H1 a C m ∧ tr σ H1 fun vs H2 => sp (x :: vs) H2 Q E) = (fun x H1 => ∃ a dx fs, x = V.ref a ∧ H1 a = some (.ins C dx fs) ∧ fs.lookup m = none ∧ tr σ H1 fun vs H2 => sp (x :: (vs ++ [])) H2 Q E) := by
    funext x H1
    apply propext
    simp only [List.append_nil]
    constructor
    · rintro ⟨a, e, ⟨dx, fs, h1, h2⟩, q⟩
      exact ⟨a, dx, fs, e, h1, h2, q⟩
    · rintro ⟨a, dx, fs, e, h1, h2, q⟩
      exact ⟨a, e, ⟨dx, fs, h1, h2⟩, q⟩
  show ta σ H _
  rw [← e]
  exact h
theorem k_meth2 {a C : Addr} {m : Str} {F : Prop} (h : Ins H a C m) (q : F) : ∃ a', V.ref a = .ref a' ∧ Ins H a' C m ∧ F := ⟨a, rfl, h, q⟩
theorem k_make {C : Addr} {sp : Sp} {E : XK} (h : tr σ H fun vs H1 => ∀ x dx, H1 x = none → H1 dx = none → dx ≠ x → sp (.ref x :: vs) (upd (upd H1 dx (.own x)) x (.ins C dx [])) (fun v H2 => v = .non ∧ Q (.ref x) H2) E) : tMake C sp [] E tr σ H Q := by
  have e : (fun vs H1 => ∀ x dx, H1 x = none → H1 dx = none → dx ≠ x → sp (.ref x :: vs) (upd (upd H1 dx (.own x)) x (.ins C dx [])) (fun v H2 => v = .non ∧ Q (.ref x) H2) E) =
    (fun vs H1 => ∀ x dx, H1 x = none → H1 dx = none → dx ≠ x → sp (.ref x :: (vs ++ [])) (upd (upd H1 dx (.own x)) x (.ins C dx [])) (fun v H2 => v = .non ∧ Q (.ref x) H2) E) := by
    funext vs H1
    rw [List.append_nil]
  show tr σ H _
  rw [← e]
  exact h
theorem k_cb {rr : List V → Hp → VK → Prop} (h : tr σ H fun vs H1 => rr vs H1 Q) : tCB rr tr σ H Q := h
/-! statements -/
theorem k_seq (h : ts { D with nx := tu D } σ H) : tSeq ts tu D σ H := h
theorem k_next (q : D.nx σ H) : tNext D σ H := q
theorem k_asg (h : te σ H fun x H1 => g x σ H1 D.nx) : tAsg te g D σ H := h
theorem k_name {i : Nat} {k : L2.St → Hp → Prop} (q : k (σ.set i (some v)) H) : gName i v σ H k := q
theorem k_gtup {a : Addr} {xs : List V} {n : Nat} {tt : TGs} {k : L2.St → Hp → Prop} (h : SqT K H a xs) (hn : xs.length = n) (q : tt xs σ H k) : gTup K n tt (.ref a) σ H k := ⟨a, xs, rfl, h, hn, q⟩
theorem k_gcons {tt : TGs} {k : L2.St → Hp → Prop} {vs : List V} (q : g v σ H fun σ' H' => tt vs σ' H' k) : gCons g tt (v :: vs) σ H k := ⟨v, vs, rfl, q⟩
theorem k_gnil {k : L2.St → Hp → Prop} (q : k σ H) : gNil [] σ H k := ⟨rfl, q⟩
theorem k_ret (h : te σ H D.rt) : tRet te D σ H := h
theorem k_ifS (h : t σ H fun c H1 => if c = true then ts D σ H1 else tu D σ H1) : tIfS t ts tu D σ H := h
theorem k_drop (h : te σ H fun _ H1 => D.nx σ H1) : tDrop te D σ H := h
end

/-! ### built-ins by name -/
section
variable {X : Cx} {H : Hp} {Q : VK} {i j : Int}
def rMin2 : List V → Hp → VK → Prop := fun xs H Q => ∃ i j, xs = [.int i, .int j] ∧ Q (.int (if j < i then j else i)) H
def rMax2 : List V → Hp → VK → Prop := fun xs H Q => ∃ i j, xs = [.int i, .int j] ∧ Q (.int (if j > i then j else i)) H
def rInt1 : List V → Hp → VK → Prop := fun xs H Q => (∃ i, xs = [.int i] ∧ Q (.int i) H) ∨ ∃ k, xs = [.bl k] ∧ Q (.int (if k then 1 else 0)) H
def rAbs1 : List V → Hp → VK → Prop := fun xs H Q => ∃ i, xs = [.int i] ∧ Q (.int (if i < 0 then -i else i)) H
theorem c_min2 (hc : X.calm = true := by rfl) : CallR X (.builtin "min") rMin2 := call_min2 hc
theorem c_max2 (hc : X.calm = true := by rfl) : CallR X (.builtin "max") rMax2 := call_max2 hc
theorem c_int1 : CallR X (.type "int") rInt1 := call_int1
theorem c_abs1 : CallR X (.builtin "abs") rAbs1 := call_abs
theorem c_lenS : CallR X (.builtin "len") (rLenS X.K) := call_len_seq
theorem o_isN : OpR X (compareOp .Is) rIsN := op_isN
theorem o_notN : OpR X (compareOp .IsNot) rNotN := op_notN
theorem k_min2 (q : Q (.int (min i j)) H) : rMin2 [.int i, .int j] H Q := ⟨i, j, rfl, by
  have e : (if j < i then j else i) = min i j := by
    rw [Int.min_def]
    split <;> split <;> omega
  rw [e]
  exact q⟩
theorem k_max2 (q : Q (.int (max i j)) H) : rMax2 [.int i, .int j] H Q := ⟨i, j, rfl, by
  have e : (if j > i then j else i) = max i j := by
    rw [Int.max_def]
    split <;> split <;> omega
  rw [e]
  exact q⟩
theorem k_int1 (q : Q (.int i) H) : rInt1 [.int i] H Q := .inl ⟨i, rfl, q⟩
theorem k_int1b {b : Bool} (q : Q (.int (if b then 1 else 0)) H) : rInt1 [.bl b] H Q := .inr ⟨b, rfl, q⟩
theorem k_abs1 (q : Q (.int (if i < 0 then -i else i)) H) : rAbs1 [.int i] H Q := ⟨i, rfl, q⟩
theorem k_lenL {K : PySem.W.Frag} {p : Addr} {xs : List V} (h : SqL K H p xs) (q : Q (.int (xs.length : Int)) H) : rLenS K [.ref p] H Q := ⟨p, xs, rfl, .inl h, q⟩
theorem k_lenT {K : PySem.W.Frag} {p : Addr} {xs : List V} (h : SqT K H p xs) (q : Q (.int (xs.length : Int)) H) : rLenS K [.ref p] H Q := ⟨p, xs, rfl, .inr h, q⟩
end
end M
namespace M
open PySem PySem.Spec PyProof.Rows L2 Evl
def top (i : Nat) : Stmt := PySem.Challenge.pw_evenrules_k64_whole_try_rules_and_turn_r.main.body.getD i (.Pass ⟨0, 0, 0, 0⟩)
abbrev s_is_integer : Stmt := top 11
abbrev s_is_within : Stmt := top 12
abbrev s_is_times : Stmt := top 18
abbrev s_need_plus : Stmt := top 19
abbrev s_need_weight : Stmt := top 20
abbrev s_need_weight_rule : Stmt := top 41
abbrev s_need_deed : Stmt := top 42
abbrev s_all_cases : Stmt := top 43
abbrev s_need_case : Stmt := top 44
abbrev s_added : Stmt := top 45
abbrev s_scaled : Stmt := top 46
abbrev s_has_three : Stmt := top 47
abbrev s_fair_tests : Stmt := top 49
abbrev s_unfair_test : Stmt := top 50
abbrev s_turn_tests : Stmt := top 51
abbrev s_break_test : Stmt := top 52
abbrev s_tests_in : Stmt := top 53
abbrev s_numbers_break : Stmt := top 54
abbrev s_over : Stmt := top 58
abbrev s_heavy_weights : Stmt := top 60
abbrev s_wrong_at : Stmt := top 64
abbrev s_breaks : Stmt := top 65
abbrev s__law_pen : Stmt := top 67
abbrev s__law_draw : Stmt := top 68
abbrev s__law_pick : Stmt := top 69
abbrev s__law_numbers : Stmt := top 70
abbrev s__law_rule : Stmt := top 71
abbrev s__law_carried : Stmt := top 72
abbrev s__law_pair_right : Stmt := top 73
abbrev s_law : Stmt := top 74
abbrev s_WeightRule_init : Stmt := inClass (top 21) 1
abbrev s_WeightRule_need_numbers : Stmt := inClass (top 21) 2
abbrev s_WeightRule_beside : Stmt := inClass (top 21) 4
abbrev s_WeightRule_greatest : Stmt := inClass (top 21) 7
abbrev s_Test_init : Stmt := inClass (top 34) 0
abbrev s_Test_amount : Stmt := inClass (top 34) 2
abbrev s_Test_call : Stmt := inClass (top 34) 4
abbrev s_Case_init : Stmt := inClass (top 40) 0
abbrev s_Case_eq : Stmt := inClass (top 40) 1
abbrev s_Forms_init : Stmt := inClass (top 48) 0
abbrev s_Forms_heavy_form : Stmt := inClass (top 48) 1
abbrev s_Forms_sides : Stmt := inClass (top 48) 2
abbrev s_Pair_init : Stmt := inClass (top 59) 0
abbrev s_Pair_inner_stretch : Stmt := inClass (top 59) 1
abbrev s_Pair_turned_stretch : Stmt := inClass (top 59) 2
abbrev s_Pair_once_stretch : Stmt := inClass (top 59) 3
abbrev s_Pair_near_stretch : Stmt := inClass (top 59) 4
abbrev s_Pair_near_for : Stmt := inClass (top 59) 5
abbrev s_Pair_stretch_of : Stmt := inClass (top 59) 6
abbrev s_Pair_can_break : Stmt := inClass (top 59) 7
abbrev s_Pair_numbers_for : Stmt := inClass (top 59) 8
abbrev s_Wrong_init : Stmt := inClass (top 63) 0
abbrev s_TryRule_init : Stmt := inClass (top 23) 0
abbrev s_TurnRule_init : Stmt := inClass (top 22) 0
theorem sc_is_integer : FnScope ["value"] ["value"] (defScope s_is_integer) := ⟨rfl, rfl, rfl, by decide +kernel, rfl, by decide +kernel, by decide +kernel⟩
theorem sc_is_within : FnScope ["value", "least", "most"] ["value", "least", "most"] (defScope s_is_within) := ⟨rfl, rfl, rfl, by decide +kernel, rfl, by decide +kernel, by decide +kernel⟩
theorem sc_is_times : FnScope ["value", "most", "each"] ["value", "most"] (defScope s_is_times) := ⟨rfl, rfl, rfl, by decide +kernel, rfl, by decide +kernel, by decide +kernel⟩
theorem sc_need_plus : FnScope ["value", "part"] ["value", "part"] (defScope s_need_plus) := ⟨rfl, rfl, rfl, by decide +kernel, rfl, by decide +kernel, by decide +kernel⟩
theorem sc_need_weight : FnScope ["value"] ["value"] (defScope s_need_weight) := ⟨rfl, rfl, rfl, by decide +kernel, rfl, by decide +kernel, by decide +kernel⟩
theorem sc_need_weight_rule : FnScope ["rule"] ["rule"] (defScope s_need_weight_rule) := ⟨rfl, rfl, rfl, by decide +kernel, rfl, by decide +kernel, by decide +kernel⟩
theorem sc_need_deed : FnScope ["deed"] ["deed"] (defScope s_need_deed) := ⟨rfl, rfl, rfl, by decide +kernel, rfl, by decide +kernel, by decide +kernel⟩
theorem sc_all_cases : FnScope ["rule", "deed", "found", "once", "twice"] ["rule", "deed"] (defScope s_all_cases) := ⟨rfl, rfl, rfl, by decide +kernel, rfl, by decide +kernel, by decide +kernel⟩
theorem sc_need_case : FnScope ["rule", "case"] ["rule", "case"] (defScope s_need_case) := ⟨rfl, rfl, rfl, by decide +kernel, rfl, by decide +kernel, by decide +kernel⟩
theorem sc_added : FnScope ["forms", "column"] ["forms"] (defScope s_added) := ⟨rfl, rfl, rfl, by decide +kernel, rfl, by decide +kernel, by decide +kernel⟩
theorem sc_scaled : FnScope ["number", "form", "part"] ["number", "form"] (defScope s_scaled) := ⟨rfl, rfl, rfl, by decide +kernel, rfl, by decide +kernel, by decide +kernel⟩
theorem sc_has_three : FnScope ["case"] ["case"] (defScope s_has_three) := ⟨rfl, rfl, rfl, by decide +kernel, rfl, by decide +kernel, by decide +kernel⟩
theorem sc_fair_tests : FnScope ["rule", "one", "other", "p", "q"] ["rule", "one", "other"] (defScope s_fair_tests) := ⟨rfl, rfl, rfl, by decide +kernel, rfl, by decide +kernel, by decide +kernel⟩
theorem sc_unfair_test : FnScope ["rule", "heavier", "lighter", "p", "q"] ["rule", "heavier", "lighter"] (defScope s_unfair_test) := ⟨rfl, rfl, rfl, by decide +kernel, rfl, by decide +kernel, by decide +kernel⟩
theorem sc_turn_tests : FnScope ["rule", "forms", "is_twice", "form", "t", "s"] ["rule", "forms", "is_twice"] (defScope s_turn_tests) := ⟨rfl, rfl, rfl, by decide +kernel, rfl, by decide +kernel, by decide +kernel⟩
theorem sc_break_test : FnScope ["rule", "forms", "is_twice", "told", "first", "second"] ["rule", "forms", "is_twice", "told"] (defScope s_break_test) := ⟨rfl, rfl, rfl, by decide +kernel, rfl, by decide +kernel, by decide +kernel⟩
theorem sc_tests_in : FnScope ["rule", "case", "forms", "found", "before", "p", "q", "unit"] ["rule", "case"] (defScope s_tests_in) := ⟨rfl, rfl, rfl, by decide +kernel, rfl, by decide +kernel, by decide +kernel⟩
theorem sc_numbers_break : FnScope ["rule", "case", "numbers", "test", "number"] ["rule", "case", "numbers"] (defScope s_numbers_break) := ⟨rfl, rfl, rfl, by decide +kernel, rfl, by decide +kernel, by decide +kernel⟩
theorem sc_over : FnScope ["number", "by"] ["number", "by"] (defScope s_over) := ⟨rfl, rfl, rfl, by decide +kernel, rfl, by decide +kernel, by decide +kernel⟩
theorem sc_heavy_weights : FnScope ["rule", "deed", "light", "first"] ["rule", "deed", "light"] (defScope s_heavy_weights) := ⟨rfl, rfl, rfl, by decide +kernel, rfl, by decide +kernel, by decide +kernel⟩
theorem sc_wrong_at : FnScope ["rule", "deed", "light", "heavy", "pair", "case"] ["rule", "deed", "light", "heavy"] (defScope s_wrong_at) := ⟨rfl, rfl, rfl, by decide +kernel, rfl, by decide +kernel, by decide +kernel⟩
theorem sc_breaks : FnScope ["rule", "deed", "light", "heavy", "weight"] ["rule", "deed", "light", "heavy"] (defScope s_breaks) := ⟨rfl, rfl, rfl, by decide +kernel, rfl, by decide +kernel, by decide +kernel⟩
theorem sc__law_pen : FnScope ["_law_script"] ["_law_script"] (defScope s__law_pen) := ⟨rfl, rfl, rfl, by decide +kernel, rfl, by decide +kernel, by decide +kernel⟩
theorem sc__law_draw : FnScope ["_law_pen_here", "_law_many", "_law_at", "_law_cell", "_law_mixed", "_law_digit", "_law_great"] ["_law_pen_here", "_law_many"] (defScope s__law_draw) := ⟨rfl, rfl, rfl, by decide +kernel, rfl, by decide +kernel, by decide +kernel⟩
theorem sc__law_pick : FnScope ["_law_pen_here", "_law_some"] ["_law_pen_here", "_law_some"] (defScope s__law_pick) := ⟨rfl, rfl, rfl, by decide +kernel, rfl, by decide +kernel, by decide +kernel⟩
theorem sc__law_numbers : FnScope ["_law_pen_here", "_law_q", "_law_p", "_law_k", "_law_s", "_law_t"] ["_law_pen_here"] (defScope s__law_numbers) := ⟨rfl, rfl, rfl, by decide +kernel, rfl, by decide +kernel, by decide +kernel⟩
theorem sc__law_rule : FnScope ["_law_some", "_law_p", "_law_q", "_law_k"] ["_law_some"] (defScope s__law_rule) := ⟨rfl, rfl, rfl, by decide +kernel, rfl, by decide +kernel, by decide +kernel⟩
theorem sc__law_carried : FnScope ["_law_rule_so", "_law_told", "_law_numbers_here", "_law_short"] ["_law_rule_so", "_law_told"] (defScope s__law_carried) := ⟨rfl, rfl, rfl, by decide +kernel, rfl, by decide +kernel, by decide +kernel⟩
theorem sc__law_pair_right : FnScope ["_law_some", "_law_turns_so", "_law_deed", "_law_a", "_law_b", "_law_told", "_law_row", "_law_rule_so"] ["_law_some", "_law_turns_so", "_law_deed", "_law_a", "_law_b"] (defScope s__law_pair_right) := ⟨rfl, rfl, rfl, by decide +kernel, rfl, by decide +kernel, by decide +kernel⟩
theorem sc_law : FnScope ["_law_script", "_law_pen_here", "_law_lap", "_law_some", "_law_turns_so", "_law_a", "_law_rule_so", "_law_deed", "_law_b", "_law_again"] ["_law_script"] (defScope s_law) := ⟨rfl, rfl, rfl, by decide +kernel, rfl, by decide +kernel, by decide +kernel⟩
theorem sc_WeightRule_init : FnScope ["self", "times", "plus"] ["self", "times", "plus"] (defScope s_WeightRule_init) := ⟨rfl, rfl, rfl, by decide +kernel, rfl, by decide +kernel, by decide +kernel⟩
theorem sc_WeightRule_need_numbers : FnScope ["times", "plus"] ["times", "plus"] (defScope s_WeightRule_need_numbers) := ⟨rfl, rfl, rfl, by decide +kernel, rfl, by decide +kernel, by decide +kernel⟩
theorem sc_WeightRule_beside : FnScope ["self", "weight"] ["self", "weight"] (defScope s_WeightRule_beside) := ⟨rfl, rfl, rfl, by decide +kernel, rfl, by decide +kernel, by decide +kernel⟩
theorem sc_WeightRule_greatest : FnScope ["self", "x"] ["self", "x"] (defScope s_WeightRule_greatest) := ⟨rfl, rfl, rfl, by decide +kernel, rfl, by decide +kernel, by decide +kernel⟩
theorem sc_Test_init : FnScope ["self", "parts", "bound", "part"] ["self", "parts", "bound"] (defScope s_Test_init) := ⟨rfl, rfl, rfl, by decide +kernel, rfl, by decide +kernel, by decide +kernel⟩
theorem sc_Test_amount : FnScope ["self", "numbers", "part", "number"] ["self", "numbers"] (defScope s_Test_amount) := ⟨rfl, rfl, rfl, by decide +kernel, rfl, by decide +kernel, by decide +kernel⟩
theorem sc_Test_call : FnScope ["self", "numbers"] ["self", "numbers"] (defScope s_Test_call) := ⟨rfl, rfl, rfl, by decide +kernel, rfl, by decide +kernel, by decide +kernel⟩
theorem sc_Case_init : FnScope ["self", "deed", "once", "twice"] ["self", "deed", "once", "twice"] (defScope s_Case_init) := ⟨rfl, rfl, rfl, by decide +kernel, rfl, by decide +kernel, by decide +kernel⟩
theorem sc_Case_eq : FnScope ["self", "other"] ["self", "other"] (defScope s_Case_eq) := ⟨rfl, rfl, rfl, by decide +kernel, rfl, by decide +kernel, by decide +kernel⟩
theorem sc_Forms_init : FnScope ["self", "case", "many", "at", "spot"] ["self", "case"] (defScope s_Forms_init) := ⟨rfl, rfl, rfl, by decide +kernel, rfl, by decide +kernel, by decide +kernel⟩
theorem sc_Forms_heavy_form : FnScope ["self"] ["self"] (defScope s_Forms_heavy_form) := ⟨rfl, rfl, rfl, by decide +kernel, rfl, by decide +kernel, by decide +kernel⟩
theorem sc_Forms_sides : FnScope ["self", "is_twice", "root"] ["self", "is_twice", "root"] (defScope s_Forms_sides) := ⟨rfl, rfl, rfl, by decide +kernel, rfl, by decide +kernel, by decide +kernel⟩
theorem sc_Pair_init : FnScope ["self", "rule", "light", "heavy"] ["self", "rule", "light", "heavy"] (defScope s_Pair_init) := ⟨rfl, rfl, rfl, by decide +kernel, rfl, by decide +kernel, by decide +kernel⟩
theorem sc_Pair_inner_stretch : FnScope ["self", "least", "most"] ["self"] (defScope s_Pair_inner_stretch) := ⟨rfl, rfl, rfl, by decide +kernel, rfl, by decide +kernel, by decide +kernel⟩
theorem sc_Pair_turned_stretch : FnScope ["self", "case", "end", "least", "most", "t", "s"] ["self", "case"] (defScope s_Pair_turned_stretch) := ⟨rfl, rfl, rfl, by decide +kernel, rfl, by decide +kernel, by decide +kernel⟩
theorem sc_Pair_once_stretch : FnScope ["self", "told", "stretch", "both", "least", "most"] ["self", "told", "stretch"] (defScope s_Pair_once_stretch) := ⟨rfl, rfl, rfl, by decide +kernel, rfl, by decide +kernel, by decide +kernel⟩
theorem sc_Pair_near_stretch : FnScope ["self", "told", "inner", "both", "least", "most", "outer"] ["self", "told", "inner"] (defScope s_Pair_near_stretch) := ⟨rfl, rfl, rfl, by decide +kernel, rfl, by decide +kernel, by decide +kernel⟩
theorem sc_Pair_near_for : FnScope ["self", "told", "inner", "least", "most"] ["self", "told", "inner"] (defScope s_Pair_near_for) := ⟨rfl, rfl, rfl, by decide +kernel, rfl, by decide +kernel, by decide +kernel⟩
theorem sc_Pair_stretch_of : FnScope ["self", "case", "stretch"] ["self", "case"] (defScope s_Pair_stretch_of) := ⟨rfl, rfl, rfl, by decide +kernel, rfl, by decide +kernel, by decide +kernel⟩
theorem sc_Pair_can_break : FnScope ["self", "case", "worst", "least", "most"] ["self", "case"] (defScope s_Pair_can_break) := ⟨rfl, rfl, rfl, by decide +kernel, rfl, by decide +kernel, by decide +kernel⟩
theorem sc_Pair_numbers_for : FnScope ["self", "case", "inner", "near", "most", "below", "middle"] ["self", "case"] (defScope s_Pair_numbers_for) := ⟨rfl, rfl, rfl, by decide +kernel, rfl, by decide +kernel, by decide +kernel⟩
theorem sc_Wrong_init : FnScope ["self", "deed", "once", "twice", "numbers"] ["self", "deed", "once", "twice", "numbers"] (defScope s_Wrong_init) := ⟨rfl, rfl, rfl, by decide +kernel, rfl, by decide +kernel, by decide +kernel⟩
/-- an own class, for isinstance -/
structure TyI (K : PySem.W.Frag) (C : Addr) : Prop where
  ha : PySem.W.findIn K (.ref C) "__class__" = some (some (.builtin "object.__class__"))
  hn : PySem.W.specialIn K (.builtin "object.__class__") "__get__" = some (some (.builtin "getset_descriptor.__get__"))
  htk : PySem.W.takesIn K (.builtin "object.__class__") = some true
  hm : PySem.W.mroIn K C (.type "object") = some true
/-- the i-th item of a tuple of the top -/
def tAt (K : PySem.W.Frag) (a : Addr) (i : Nat) : Addr := match K.lookup a with
  | some ⟨_, _, .seq its _, _⟩ => (match its.toList[i]? with
    | some (.ref b) => b
    | _ => 0)
  | _ => 0
/-- what the top has left -/
def nnF (K : PySem.W.Frag) : Addr := match PySem.W.recIn K (He.ma K (He.ga K "WeightRule") "need_numbers") "staticmethod" with
  | some (.ref g :: _) => g
  | _ => 0
structure TX (K : PySem.W.Frag) (mg : Str → Option Value) : Prop where
  most : ∃ mc u, ClX.CRead K (He.ga K "WeightRule") mc ∧ ClX.CVal K (He.ga K "WeightRule") mc "MOST" (.int 6) u
  g_is_integer : mg "is_integer" = some (.ref (He.ga K "is_integer"))
  g_is_within : mg "is_within" = some (.ref (He.ga K "is_within"))
  g_is_times : mg "is_times" = some (.ref (He.ga K "is_times"))
  g_need_plus : mg "need_plus" = some (.ref (He.ga K "need_plus"))
  g_need_weight : mg "need_weight" = some (.ref (He.ga K "need_weight"))
  g_need_weight_rule : mg "need_weight_rule" = some (.ref (He.ga K "need_weight_rule"))
  g_need_deed : mg "need_deed" = some (.ref (He.ga K "need_deed"))
  g_all_cases : mg "all_cases" = some (.ref (He.ga K "all_cases"))
  g_need_case : mg "need_case" = some (.ref (He.ga K "need_case"))
  g_added : mg "added" = some (.ref (He.ga K "added"))
  g_scaled : mg "scaled" = some (.ref (He.ga K "scaled"))
  g_has_three : mg "has_three" = some (.ref (He.ga K "has_three"))
  g_fair_tests : mg "fair_tests" = some (.ref (He.ga K "fair_tests"))
  g_unfair_test : mg "unfair_test" = some (.ref (He.ga K "unfair_test"))
  g_turn_tests : mg "turn_tests" = some (.ref (He.ga K "turn_tests"))
  g_break_test : mg "break_test" = some (.ref (He.ga K "break_test"))
  g_tests_in : mg "tests_in" = some (.ref (He.ga K "tests_in"))
  g_numbers_break : mg "numbers_break" = some (.ref (He.ga K "numbers_break"))
  g_over : mg "over" = some (.ref (He.ga K "over"))
  g_heavy_weights : mg "heavy_weights" = some (.ref (He.ga K "heavy_weights"))
  g_wrong_at : mg "wrong_at" = some (.ref (He.ga K "wrong_at"))
  g_breaks : mg "breaks" = some (.ref (He.ga K "breaks"))
  g__law_pen : mg "_law_pen" = some (.ref (He.ga K "_law_pen"))
  g__law_draw : mg "_law_draw" = some (.ref (He.ga K "_law_draw"))
  g__law_pick : mg "_law_pick" = some (.ref (He.ga K "_law_pick"))
  g__law_numbers : mg "_law_numbers" = some (.ref (He.ga K "_law_numbers"))
  g__law_rule : mg "_law_rule" = some (.ref (He.ga K "_law_rule"))
  g__law_carried : mg "_law_carried" = some (.ref (He.ga K "_law_carried"))
  g__law_pair_right : mg "_law_pair_right" = some (.ref (He.ga K "_law_pair_right"))
  g_law : mg "law" = some (.ref (He.ga K "law"))
  g_WeightRule : mg "WeightRule" = some (.ref (He.ga K "WeightRule"))
  g_TurnRule : mg "TurnRule" = some (.ref (He.ga K "TurnRule"))
  g_TryRule : mg "TryRule" = some (.ref (He.ga K "TryRule"))
  g_Test : mg "Test" = some (.ref (He.ga K "Test"))
  g_Case : mg "Case" = some (.ref (He.ga K "Case"))
  g_Forms : mg "Forms" = some (.ref (He.ga K "Forms"))
  g_Pair : mg "Pair" = some (.ref (He.ga K "Pair"))
  g_Wrong : mg "Wrong" = some (.ref (He.ga K "Wrong"))
  g_DEEDS : mg "DEEDS" = some (.ref (He.ga K "DEEDS"))
  g_ONCE : mg "ONCE" = some (.ref (He.ga K "ONCE"))
  g_INNER : mg "INNER" = some (.ref (He.ga K "INNER"))
  g_TWICE : mg "TWICE" = some (.ref (He.ga K "TWICE"))
  g_MOST_PLUS : ∃ t, mg "MOST_PLUS" = some (.int 6 t)
  g_MOST_TURN : ∃ t, mg "MOST_TURN" = some (.int 8 t)
  g_MOST_WEIGHT : ∃ t, mg "MOST_WEIGHT" = some (.int 1000000000000000000000000000000000000000000000000000000000000 t)
  g_MOST_PARTS : ∃ t, mg "MOST_PARTS" = some (.int 5 t)
  g_MOST_ASKED : ∃ t, mg "MOST_ASKED" = some (.int 1000000000000 t)
  n_isinstance : mg "isinstance" = none
  n_int : mg "int" = none
  n_bool : mg "bool" = none
  n_str : mg "str" = none
  n_list : mg "list" = none
  n_tuple : mg "tuple" = none
  n_len : mg "len" = none
  n_min : mg "min" = none
  n_max : mg "max" = none
  n_abs : mg "abs" = none
  n_sum : mg "sum" = none
  n_all : mg "all" = none
  n_range : mg "range" = none
  n_zip : mg "zip" = none
  n_super : mg "super" = none
  F_is_integer : ∃ fd, FunD K "is_integer" "is_integer" (defArgs s_is_integer) (defBody s_is_integer) (defScope s_is_integer) [] [] (He.ga K "is_integer") fd
  F_is_within : ∃ fd, FunD K "is_within" "is_within" (defArgs s_is_within) (defBody s_is_within) (defScope s_is_within) [] [] (He.ga K "is_within") fd
  F_is_times : ∃ fd, FunD K "is_times" "is_times" (defArgs s_is_times) (defBody s_is_times) (defScope s_is_times) [] [] (He.ga K "is_times") fd
  F_need_plus : ∃ fd, FunD K "need_plus" "need_plus" (defArgs s_need_plus) (defBody s_need_plus) (defScope s_need_plus) [] [] (He.ga K "need_plus") fd
  F_need_weight : ∃ fd, FunD K "need_weight" "need_weight" (defArgs s_need_weight) (defBody s_need_weight) (defScope s_need_weight) [] [] (He.ga K "need_weight") fd
  F_need_weight_rule : ∃ fd, FunD K "need_weight_rule" "need_weight_rule" (defArgs s_need_weight_rule) (defBody s_need_weight_rule) (defScope s_need_weight_rule) [] [] (He.ga K "need_weight_rule") fd
  F_need_deed : ∃ fd, FunD K "need_deed" "need_deed" (defArgs s_need_deed) (defBody s_need_deed) (defScope s_need_deed) [] [] (He.ga K "need_deed") fd
  F_all_cases : ∃ fd, FunD K "all_cases" "all_cases" (defArgs s_all_cases) (defBody s_all_cases) (defScope s_all_cases) [] [] (He.ga K "all_cases") fd
  F_need_case : ∃ fd, FunD K "need_case" "need_case" (defArgs s_need_case) (defBody s_need_case) (defScope s_need_case) [] [] (He.ga K "need_case") fd
  F_added : ∃ fd, FunD K "added" "added" (defArgs s_added) (defBody s_added) (defScope s_added) [] [] (He.ga K "added") fd
  F_scaled : ∃ fd, FunD K "scaled" "scaled" (defArgs s_scaled) (defBody s_scaled) (defScope s_scaled) [] [] (He.ga K "scaled") fd
  F_has_three : ∃ fd, FunD K "has_three" "has_three" (defArgs s_has_three) (defBody s_has_three) (defScope s_has_three) [] [] (He.ga K "has_three") fd
  F_fair_tests : ∃ fd, FunD K "fair_tests" "fair_tests" (defArgs s_fair_tests) (defBody s_fair_tests) (defScope s_fair_tests) [] [] (He.ga K "fair_tests") fd
  F_unfair_test : ∃ fd, FunD K "unfair_test" "unfair_test" (defArgs s_unfair_test) (defBody s_unfair_test) (defScope s_unfair_test) [] [] (He.ga K "unfair_test") fd
  F_turn_tests : ∃ fd, FunD K "turn_tests" "turn_tests" (defArgs s_turn_tests) (defBody s_turn_tests) (defScope s_turn_tests) [] [] (He.ga K "turn_tests") fd
  F_break_test : ∃ fd, FunD K "break_test" "break_test" (defArgs s_break_test) (defBody s_break_test) (defScope s_break_test) [] [] (He.ga K "break_test") fd
  F_tests_in : ∃ fd, FunD K "tests_in" "tests_in" (defArgs s_tests_in) (defBody s_tests_in) (defScope s_tests_in) [] [] (He.ga K "tests_in") fd
  F_numbers_break : ∃ fd, FunD K "numbers_break" "numbers_break" (defArgs s_numbers_break) (defBody s_numbers_break) (defScope s_numbers_break) [] [] (He.ga K "numbers_break") fd
  F_over : ∃ fd, FunD K "over" "over" (defArgs s_over) (defBody s_over) (defScope s_over) [] [] (He.ga K "over") fd
  F_heavy_weights : ∃ fd, FunD K "heavy_weights" "heavy_weights" (defArgs s_heavy_weights) (defBody s_heavy_weights) (defScope s_heavy_weights) [] [] (He.ga K "heavy_weights") fd
  F_wrong_at : ∃ fd, FunD K "wrong_at" "wrong_at" (defArgs s_wrong_at) (defBody s_wrong_at) (defScope s_wrong_at) [] [] (He.ga K "wrong_at") fd
  F_breaks : ∃ fd, FunD K "breaks" "breaks" (defArgs s_breaks) (defBody s_breaks) (defScope s_breaks) [] [] (He.ga K "breaks") fd
  F__law_pen : ∃ fd, FunD K "_law_pen" "_law_pen" (defArgs s__law_pen) (defBody s__law_pen) (defScope s__law_pen) [] [] (He.ga K "_law_pen") fd
  F__law_draw : ∃ fd, FunD K "_law_draw" "_law_draw" (defArgs s__law_draw) (defBody s__law_draw) (defScope s__law_draw) [] [] (He.ga K "_law_draw") fd
  F__law_pick : ∃ fd, FunD K "_law_pick" "_law_pick" (defArgs s__law_pick) (defBody s__law_pick) (defScope s__law_pick) [] [] (He.ga K "_law_pick") fd
  F__law_numbers : ∃ fd, FunD K "_law_numbers" "_law_numbers" (defArgs s__law_numbers) (defBody s__law_numbers) (defScope s__law_numbers) [] [] (He.ga K "_law_numbers") fd
  F__law_rule : ∃ fd, FunD K "_law_rule" "_law_rule" (defArgs s__law_rule) (defBody s__law_rule) (defScope s__law_rule) [] [] (He.ga K "_law_rule") fd
  F__law_carried : ∃ fd, FunD K "_law_carried" "_law_carried" (defArgs s__law_carried) (defBody s__law_carried) (defScope s__law_carried) [] [] (He.ga K "_law_carried") fd
  F__law_pair_right : ∃ fd, FunD K "_law_pair_right" "_law_pair_right" (defArgs s__law_pair_right) (defBody s__law_pair_right) (defScope s__law_pair_right) [] [] (He.ga K "_law_pair_right") fd
  F_law : ∃ fd, FunD K "law" "law" (defArgs s_law) (defBody s_law) (defScope s_law) [] [] (He.ga K "law") fd
  F_WeightRule_init : ∃ fd, FunD K "__init__" "WeightRule.__init__" (defArgs s_WeightRule_init) (defBody s_WeightRule_init) (defScope s_WeightRule_init) [] [] (He.ma K (He.ga K "WeightRule") "__init__") fd
  F_WeightRule_need_numbers : ∃ fd, FunD K "need_numbers" "WeightRule.need_numbers" (defArgs s_WeightRule_need_numbers) (defBody s_WeightRule_need_numbers) (defScope s_WeightRule_need_numbers) [] [] (nnF K) fd
  F_WeightRule_beside : ∃ fd, FunD K "beside" "WeightRule.beside" (defArgs s_WeightRule_beside) (defBody s_WeightRule_beside) (defScope s_WeightRule_beside) [] [] (He.ma K (He.ga K "WeightRule") "beside") fd
  F_WeightRule_greatest : ∃ fd, FunD K "greatest" "WeightRule.greatest" (defArgs s_WeightRule_greatest) (defBody s_WeightRule_greatest) (defScope s_WeightRule_greatest) [] [] (He.ma K (He.ga K "WeightRule") "greatest") fd
  F_Test_init : ∃ fd, FunD K "__init__" "Test.__init__" (defArgs s_Test_init) (defBody s_Test_init) (defScope s_Test_init) [] [] (He.ma K (He.ga K "Test") "__init__") fd
  F_Test_amount : ∃ fd, FunD K "amount" "Test.amount" (defArgs s_Test_amount) (defBody s_Test_amount) (defScope s_Test_amount) [] [] (He.ma K (He.ga K "Test") "amount") fd
  F_Test_call : ∃ fd, FunD K "__call__" "Test.__call__" (defArgs s_Test_call) (defBody s_Test_call) (defScope s_Test_call) [] [] (He.ma K (He.ga K "Test") "__call__") fd
  F_Case_init : ∃ fd, FunD K "__init__" "Case.__init__" (defArgs s_Case_init) (defBody s_Case_init) (defScope s_Case_init) [] [] (He.ma K (He.ga K "Case") "__init__") fd
  F_Case_eq : ∃ fd, FunD K "__eq__" "Case.__eq__" (defArgs s_Case_eq) (defBody s_Case_eq) (defScope s_Case_eq) [] [] (He.ma K (He.ga K "Case") "__eq__") fd
  F_Forms_init : ∃ fd, FunD K "__init__" "Forms.__init__" (defArgs s_Forms_init) (defBody s_Forms_init) (defScope s_Forms_init) [] [] (He.ma K (He.ga K "Forms") "__init__") fd
  F_Forms_heavy_form : ∃ fd, FunD K "heavy_form" "Forms.heavy_form" (defArgs s_Forms_heavy_form) (defBody s_Forms_heavy_form) (defScope s_Forms_heavy_form) [] [] (He.ma K (He.ga K "Forms") "heavy_form") fd
  F_Forms_sides : ∃ fd, FunD K "sides" "Forms.sides" (defArgs s_Forms_sides) (defBody s_Forms_sides) (defScope s_Forms_sides) [] [] (He.ma K (He.ga K "Forms") "sides") fd
  F_Pair_init : ∃ fd, FunD K "__init__" "Pair.__init__" (defArgs s_Pair_init) (defBody s_Pair_init) (defScope s_Pair_init) [] [] (He.ma K (He.ga K "Pair") "__init__") fd
  F_Pair_inner_stretch : ∃ fd, FunD K "inner_stretch" "Pair.inner_stretch" (defArgs s_Pair_inner_stretch) (defBody s_Pair_inner_stretch) (defScope s_Pair_inner_stretch) [] [] (He.ma K (He.ga K "Pair") "inner_stretch") fd
  F_Pair_turned_stretch : ∃ fd, FunD K "turned_stretch" "Pair.turned_stretch" (defArgs s_Pair_turned_stretch) (defBody s_Pair_turned_stretch) (defScope s_Pair_turned_stretch) [] [] (He.ma K (He.ga K "Pair") "turned_stretch") fd
  F_Pair_once_stretch : ∃ fd, FunD K "once_stretch" "Pair.once_stretch" (defArgs s_Pair_once_stretch) (defBody s_Pair_once_stretch) (defScope s_Pair_once_stretch) [] [] (He.ma K (He.ga K "Pair") "once_stretch") fd
  F_Pair_near_stretch : ∃ fd, FunD K "near_stretch" "Pair.near_stretch" (defArgs s_Pair_near_stretch) (defBody s_Pair_near_stretch) (defScope s_Pair_near_stretch) [] [] (He.ma K (He.ga K "Pair") "near_stretch") fd
  F_Pair_near_for : ∃ fd, FunD K "near_for" "Pair.near_for" (defArgs s_Pair_near_for) (defBody s_Pair_near_for) (defScope s_Pair_near_for) [] [] (He.ma K (He.ga K "Pair") "near_for") fd
  F_Pair_stretch_of : ∃ fd, FunD K "stretch_of" "Pair.stretch_of" (defArgs s_Pair_stretch_of) (defBody s_Pair_stretch_of) (defScope s_Pair_stretch_of) [] [] (He.ma K (He.ga K "Pair") "stretch_of") fd
  F_Pair_can_break : ∃ fd, FunD K "can_break" "Pair.can_break" (defArgs s_Pair_can_break) (defBody s_Pair_can_break) (defScope s_Pair_can_break) [] [] (He.ma K (He.ga K "Pair") "can_break") fd
  F_Pair_numbers_for : ∃ fd, FunD K "numbers_for" "Pair.numbers_for" (defArgs s_Pair_numbers_for) (defBody s_Pair_numbers_for) (defScope s_Pair_numbers_for) [] [] (He.ma K (He.ga K "Pair") "numbers_for") fd
  F_Wrong_init : ∃ fd, FunD K "__init__" "Wrong.__init__" (defArgs s_Wrong_init) (defBody s_Wrong_init) (defScope s_Wrong_init) [] [] (He.ma K (He.ga K "Wrong") "__init__") fd
  c_TryRule : Cls K (He.ga K "TryRule")
  ty_TryRule : TyI K (He.ga K "TryRule")
  na_TryRule_times : NoAttr K (He.ga K "TryRule") "times"
  na_TryRule_plus : NoAttr K (He.ga K "TryRule") "plus"
  m_TryRule_beside : Meth K (He.ga K "TryRule") "beside" (He.ma K (He.ga K "WeightRule") "beside")
  m_TryRule_greatest : Meth K (He.ga K "TryRule") "greatest" (He.ma K (He.ga K "WeightRule") "greatest")
  c_TurnRule : Cls K (He.ga K "TurnRule")
  ty_TurnRule : TyI K (He.ga K "TurnRule")
  na_TurnRule_times : NoAttr K (He.ga K "TurnRule") "times"
  na_TurnRule_plus : NoAttr K (He.ga K "TurnRule") "plus"
  na_TurnRule_turn : NoAttr K (He.ga K "TurnRule") "turn"
  na_TurnRule_turn_plus : NoAttr K (He.ga K "TurnRule") "turn_plus"
  m_TurnRule_beside : Meth K (He.ga K "TurnRule") "beside" (He.ma K (He.ga K "WeightRule") "beside")
  m_TurnRule_greatest : Meth K (He.ga K "TurnRule") "greatest" (He.ma K (He.ga K "WeightRule") "greatest")
  c_Test : Cls K (He.ga K "Test")
  ty_Test : TyI K (He.ga K "Test")
  na_Test_parts : NoAttr K (He.ga K "Test") "parts"
  na_Test_bound : NoAttr K (He.ga K "Test") "bound"
  m_Test_amount : Meth K (He.ga K "Test") "amount" (He.ma K (He.ga K "Test") "amount")
  c_Case : Cls K (He.ga K "Case")
  ty_Case : TyI K (He.ga K "Case")
  na_Case_deed : NoAttr K (He.ga K "Case") "deed"
  na_Case_once : NoAttr K (He.ga K "Case") "once"
  na_Case_twice : NoAttr K (He.ga K "Case") "twice"
  c_Forms : Cls K (He.ga K "Forms")
  ty_Forms : TyI K (He.ga K "Forms")
  na_Forms_units : NoAttr K (He.ga K "Forms") "units"
  na_Forms_light : NoAttr K (He.ga K "Forms") "light"
  na_Forms_outer : NoAttr K (He.ga K "Forms") "outer"
  na_Forms_near : NoAttr K (He.ga K "Forms") "near"
  na_Forms_far : NoAttr K (He.ga K "Forms") "far"
  na_Forms_inner : NoAttr K (He.ga K "Forms") "inner"
  m_Forms_heavy_form : Meth K (He.ga K "Forms") "heavy_form" (He.ma K (He.ga K "Forms") "heavy_form")
  m_Forms_sides : Meth K (He.ga K "Forms") "sides" (He.ma K (He.ga K "Forms") "sides")
  c_Pair : Cls K (He.ga K "Pair")
  ty_Pair : TyI K (He.ga K "Pair")
  na_Pair_rule : NoAttr K (He.ga K "Pair") "rule"
  na_Pair_p : NoAttr K (He.ga K "Pair") "p"
  na_Pair_q : NoAttr K (He.ga K "Pair") "q"
  na_Pair_more : NoAttr K (He.ga K "Pair") "more"
  na_Pair_light : NoAttr K (He.ga K "Pair") "light"
  na_Pair_heavy : NoAttr K (He.ga K "Pair") "heavy"
  m_Pair_inner_stretch : Meth K (He.ga K "Pair") "inner_stretch" (He.ma K (He.ga K "Pair") "inner_stretch")
  m_Pair_turned_stretch : Meth K (He.ga K "Pair") "turned_stretch" (He.ma K (He.ga K "Pair") "turned_stretch")
  m_Pair_once_stretch : Meth K (He.ga K "Pair") "once_stretch" (He.ma K (He.ga K "Pair") "once_stretch")
  m_Pair_near_stretch : Meth K (He.ga K "Pair") "near_stretch" (He.ma K (He.ga K "Pair") "near_stretch")
  m_Pair_near_for : Meth K (He.ga K "Pair") "near_for" (He.ma K (He.ga K "Pair") "near_for")
  m_Pair_stretch_of : Meth K (He.ga K "Pair") "stretch_of" (He.ma K (He.ga K "Pair") "stretch_of")
  m_Pair_can_break : Meth K (He.ga K "Pair") "can_break" (He.ma K (He.ga K "Pair") "can_break")
  m_Pair_numbers_for : Meth K (He.ga K "Pair") "numbers_for" (He.ma K (He.ga K "Pair") "numbers_for")
  c_Wrong : Cls K (He.ga K "Wrong")
  ty_Wrong : TyI K (He.ga K "Wrong")
  na_Wrong_deed : NoAttr K (He.ga K "Wrong") "deed"
  na_Wrong_once : NoAttr K (He.ga K "Wrong") "once"
  na_Wrong_twice : NoAttr K (He.ga K "Wrong") "twice"
  na_Wrong_numbers : NoAttr K (He.ga K "Wrong") "numbers"
  mk_Test : Mk K (He.ga K "Test") (He.ma K (He.ga K "Test") "__init__")
  mk_Case : Mk K (He.ga K "Case") (He.ma K (He.ga K "Case") "__init__")
  mk_Forms : Mk K (He.ga K "Forms") (He.ma K (He.ga K "Forms") "__init__")
  mk_Pair : Mk K (He.ga K "Pair") (He.ma K (He.ga K "Pair") "__init__")
  mk_Wrong : Mk K (He.ga K "Wrong") (He.ma K (He.ga K "Wrong") "__init__")
  mk_TryRule : Mk K (He.ga K "TryRule") (He.ma K (He.ga K "TryRule") "__init__")
  mk_TurnRule : Mk K (He.ga K "TurnRule") (He.ma K (He.ga K "TurnRule") "__init__")
  k_TryRule_WeightRule : PySem.W.kitOne K (.ref (He.ga K "TryRule")) (.ref (He.ga K "WeightRule")) = some true
  k_TurnRule_WeightRule : PySem.W.kitOne K (.ref (He.ga K "TurnRule")) (.ref (He.ga K "WeightRule")) = some true
  k_TryRule_TurnRule : PySem.W.kitOne K (.ref (He.ga K "TryRule")) (.ref (He.ga K "TurnRule")) = some false
  k_TurnRule_TurnRule : PySem.W.kitOne K (.ref (He.ga K "TurnRule")) (.ref (He.ga K "TurnRule")) = some true
  k_Case_Case : PySem.W.kitOne K (.ref (He.ga K "Case")) (.ref (He.ga K "Case")) = some true
  callO : StX.CallO K (He.ga K "Test") (He.ma K (He.ga K "Test") "__call__")
  eqF : PySem.W.findIn K (.ref (He.ga K "Case")) "__eq__" = some (some (.ref (He.ma K (He.ga K "Case") "__eq__"))) ∧ PySem.W.isFn K (.ref (He.ma K (He.ga K "Case") "__eq__")) = true
  t_DEEDS : ∀ H, SqT K H (He.ga K "DEEDS") [.str "put", .str "take"]
  t_INNER : ∀ H, SqT K H (He.ga K "INNER") [.str "inner", .str "none"]
  t_ONCE : ∀ H, SqT K H (He.ga K "ONCE") [.ref (tAt K (He.ga K "ONCE") 0), .ref (tAt K (He.ga K "ONCE") 1), .ref (tAt K (He.ga K "ONCE") 2), .ref (tAt K (He.ga K "ONCE") 3)]
  t_ONCE0 : ∀ H, SqT K H (tAt K (He.ga K "ONCE") 0) [.str "light", .str "first"]
  t_ONCE1 : ∀ H, SqT K H (tAt K (He.ga K "ONCE") 1) [.str "light", .str "second"]
  t_ONCE2 : ∀ H, SqT K H (tAt K (He.ga K "ONCE") 2) [.str "top", .str "first"]
  t_ONCE3 : ∀ H, SqT K H (tAt K (He.ga K "ONCE") 3) [.str "top", .str "second"]
  t_TWICE : ∀ H, SqT K H (He.ga K "TWICE") [.ref (tAt K (He.ga K "TWICE") 0), .ref (tAt K (He.ga K "TWICE") 1), .ref (tAt K (He.ga K "TWICE") 2), .ref (tAt K (He.ga K "TWICE") 3), .ref (tAt K (He.ga K "TWICE") 4), .ref (tAt K (He.ga K "TWICE") 5), .ref (tAt K (He.ga K "TWICE") 6)]
  t_TWICE0 : ∀ H, SqT K H (tAt K (He.ga K "TWICE") 0) [.str "inner", .str "none"]
  t_TWICE1 : ∀ H, SqT K H (tAt K (He.ga K "TWICE") 1) [.str "light", .str "first"]
  t_TWICE2 : ∀ H, SqT K H (tAt K (He.ga K "TWICE") 2) [.str "light", .str "second"]
  t_TWICE3 : ∀ H, SqT K H (tAt K (He.ga K "TWICE") 3) [.str "far", .str "first"]
  t_TWICE4 : ∀ H, SqT K H (tAt K (He.ga K "TWICE") 4) [.str "far", .str "second"]
  t_TWICE5 : ∀ H, SqT K H (tAt K (He.ga K "TWICE") 5) [.str "top", .str "first"]
  t_TWICE6 : ∀ H, SqT K H (tAt K (He.ga K "TWICE") 6) [.str "top", .str "second"]
/-- a def that keeps its promise, and how its arguments come to it -/
abbrev Ok (P : Program) (w : World) (K : PySem.W.Frag) (mg : Str → Option Value) (base : Heap) (k : Nat) (f : Addr) (ps : List Str) (sp : Sp) : Prop :=
  ∃ fd, FnOk P w K mg base CX0 k f fd ps sp ∧ Binds K fd ps [] ∧ PySem.W.keepIn K (.ref f) = true
end M
namespace M
open PySem PySem.Spec PyProof.Rows L2 Evl
/-- a def's promise: what it asks, what it hands back; all that stood stands -/
def PR {α : Type} (args : α → List V) (pre : α → Hp → Prop) (post : α → Hp → V → Hp → Prop) : Sp := fun vs H Q _ => ∃ a, vs = args a ∧ pre a H ∧ ∀ v H', Ex H H' → post a H v H' → Q v H'
theorem PR.use {α : Type} {args : α → List V} {pre : α → Hp → Prop} {post : α → Hp → V → Hp → Prop} {H : Hp} {Q : VK} {E : XK} (a : α) (h : pre a H) (k : ∀ v H', Ex H H' → post a H v H' → Q v H') : PR args pre post (args a) H Q E := ⟨a, rfl, h, k⟩
theorem PR.len {α : Type} {args : α → List V} {pre : α → Hp → Prop} {post : α → Hp → V → Hp → Prop} {n : Nat} (hl : ∀ a, (args a).length = n) (vs : List V) (H : Hp) (Q : VK) (E : XK) (h : PR args pre post vs H Q E) : vs.length = n := by
  obtain ⟨a, rfl, _⟩ := h
  exact hl a
/-- the same, its value told -/
def SV {α : Type} (args : α → List V) (pre : α → Hp → Prop) (val : α → V) : Sp := fun vs H Q _ => ∃ a, vs = args a ∧ pre a H ∧ ∀ H', Ex H H' → Q (val a) H'
theorem SV.len {α : Type} {args : α → List V} {pre : α → Hp → Prop} {val : α → V} {n : Nat} (hl : ∀ a, (args a).length = n) (vs : List V) (H : Hp) (Q : VK) (E : XK) (h : SV args pre val vs H Q E) : vs.length = n := by
  obtain ⟨a, rfl, _⟩ := h
  exact hl a
/-- an __init__'s promise: the new instance at x, its fields behind it -/
def SI {α : Type} (C : Addr) (args : α → List V) (pre : α → Hp → Prop) (post : α → List (Str × V) → Hp → Prop) : Sp := fun vs H Q _ => ∃ (a : α) (x dx : Addr), vs = .ref x :: args a ∧ H x = some (.ins C dx []) ∧ pre a H ∧
  ∀ H' fs, (∀ b o, b ≠ x → H b = some o → H' b = some o) → H' x = some (.ins C dx fs) → post a fs H' → Q .non H'
theorem SI.len {α : Type} {C : Addr} {args : α → List V} {pre : α → Hp → Prop} {post : α → List (Str × V) → Hp → Prop} {n : Nat} (hl : ∀ a, (args a).length = n) (vs : List V) (H : Hp) (Q : VK) (E : XK) (h : SI C args pre post vs H Q E) : vs.length = n + 1 := by
  obtain ⟨a, x, dx, rfl, _⟩ := h
  rw [List.length_cons, hl]
theorem made_ex {H : Hp} {x dx C : Addr} (nx : H x = none) (nd : H dx = none) : Ex H (upd (upd H dx (.own x)) x (.ins C dx [])) := fun b o e => by
  rw [upd_ne (ne_of_none e nx), upd_ne (ne_of_none e nd)]
  exact e
/-- making an instance -/
theorem SI.make {α : Type} {C : Addr} {args : α → List V} {pre : α → Hp → Prop} {post : α → List (Str × V) → Hp → Prop} {H : Hp} {Q : VK} {E : XK} (a : α) (mono : ∀ H', Ex H H' → pre a H') (k : ∀ x H' dx fs, H x = none → Ex H H' → H' x = some (.ins C dx fs) → post a fs H' → Q (.ref x) H') :
    ∀ x dx, H x = none → H dx = none → dx ≠ x → SI C args pre post (.ref x :: args a) (upd (upd H dx (.own x)) x (.ins C dx [])) (fun v H2 => v = .non ∧ Q (.ref x) H2) E := by
  intro x dx nx nd ne
  refine ⟨a, x, dx, rfl, upd_same, mono _ (made_ex nx nd), fun H' fs h1 h2 h3 => ⟨rfl, k x H' dx fs nx (fun b o e => ?_) h2 h3⟩⟩
  have nb : b ≠ x := ne_of_none e nx
  exact h1 b o nb (made_ex nx nd b o e)
section
variable {P : Program} {w : World} {K : PySem.W.Frag} {mg : Str → Option Value} {base : Heap} {x qual : Str} {params : Arguments} {body : List Stmt} {scope : Scope} {dvs : List V} {kws : List (Str × V)} {f : Addr} {fd : FuncData}
/-- THE RULE for a def that lets nothing out -/
theorem okN {N ps : List Str} {k : Nat} {sp : Sp} (F : FunD K x qual params body scope dvs kws f fd) (S : FnScope N ps scope) (len : ∀ vs H Q E, sp vs H Q E → vs.length = ps.length)
    (hbody : ∀ (cdv : Value) (A : Around) (outer : List Env) (s : Shared) (H : Hp) (vs : List V) (Q : VK) (E : XK), Room k (A.deeper (envOfC qual scope s.heap.objs.size f cdv)) → sp vs H Q E →
      ∃ t, PSs (cxOf CX0 P w K mg base N qual scope f cdv A outer s H E).nox body t ∧ t { nx := fun _ H' => Q .non H', rt := Q } (start N vs) H) : FnOk P w K mg base CX0 (k + 1) f fd ps sp :=
  F.ok S len fun cdv A outer s H vs Q E hr h => let ⟨t, h1, h2⟩ := hbody cdv A outer s H vs Q E hr h; ⟨t, h1.nox, h2⟩
end
theorem cxK {CX : CXT} {P : Program} {w : World} {K : PySem.W.Frag} {mg : Str → Option Value} {base : Heap} {N : List Str} {qual : Str} {scope : Scope} {f : Addr} {cd : Value} {A : Around} {outer : List Env} {s : Shared} {H : Hp} {E : XK} : (cxOf CX P w K mg base N qual scope f cd A outer s H E).nox.K = K := rfl
theorem k_isi {K : PySem.W.Frag} {H : Hp} {Q : VK} {x c : V} {t u : Value} {b : Bool} (k : ClsV c u) (ty : TyX K H x t) (e : PySem.W.kitOne K t u = some b) (q : Q (.bl b) H) : rIsi K [x, c] H Q := ⟨x, c, t, u, b, rfl, k, ty, e, q⟩
theorem kit_int_int {K : PySem.W.Frag} : PySem.W.kitOne K (.type "int") (.type "int") = some true := kit_ty (by decide +kernel)
theorem kit_int_bool {K : PySem.W.Frag} : PySem.W.kitOne K (.type "int") (.type "bool") = some false := kit_ty (by decide +kernel)
theorem kit_str_str {K : PySem.W.Frag} : PySem.W.kitOne K (.type "str") (.type "str") = some true := kit_ty (by decide +kernel)
theorem kit_tuple_tuple {K : PySem.W.Frag} : PySem.W.kitOne K (.type "tuple") (.type "tuple") = some true := kit_ty (by decide +kernel)
section
variable {K : PySem.W.Frag} {H : Hp} {Q : VK}
theorem k_isi_ii {i : Int} (q : Q (.bl true) H) : rIsi K [.int i, .ty "int"] H Q := k_isi (.ty _) (.base (.int _)) kit_int_int q
theorem k_isi_ib {i : Int} (q : Q (.bl false) H) : rIsi K [.int i, .ty "bool"] H Q := k_isi (.ty _) (.base (.int _)) kit_int_bool q
theorem k_isi_ss {i : Str} (q : Q (.bl true) H) : rIsi K [.str i, .ty "str"] H Q := k_isi (.ty _) (.base (.str _)) kit_str_str q
theorem k_isi_tt {a : Addr} {xs : List V} (h : SqT K H a xs) (q : Q (.bl true) H) : rIsi K [.ref a, .ty "tuple"] H Q := by
  rcases h with (h | ⟨o, h⟩) | ⟨o, its, n, h1, h2, _⟩
  · exact k_isi (.ty _) (.base (.tup h)) kit_tuple_tuple q
  · exact k_isi (.ty _) (.fTuple h) kit_tuple_tuple q
  · exact k_isi (.ty _) (.kTuple h1 h2) kit_tuple_tuple q
theorem k_isi_own {a C D dx : Addr} {fs : List (Str × V)} {b : Bool} (h : H a = some (.ins C dx fs)) (cl : Cls K C) (t : TyI K C) (e : PySem.W.kitOne K (.ref C) (.ref D) = some b) (q : Q (.bl b) H) : rIsi K [.ref a, .ref D] H Q :=
  k_isi (.own _) (.base (.ins h cl t.ha t.hn t.htk t.hm)) e q
end
section
variable {K : PySem.W.Frag} {σ : L2.St} {H : Hp} {Q : VK} {ta : TE}
theorem k_bx {b : Bool} {F : Bool → Prop} (q : F b) : ∃ k, V.bl b = .bl k ∧ F k := ⟨b, rfl, q⟩
theorem k_nyes {P A B : Prop} [Decidable P] (h : P) (q : B) : if (!decide P) = true then A else B := by
  rw [decide_eq_true h]
  exact q
theorem k_nno {P A B : Prop} [Decidable P] (h : ¬ P) (q : A) : if (!decide P) = true then A else B := by
  rw [decide_eq_false h]
  exact q
theorem iteNT {A B : Prop} (q : B) : if (!true) = true then A else B := q
theorem iteNF {A B : Prop} (q : A) : if (!false) = true then A else B := q
theorem k_cval {f : Str} (h : ta σ H fun x H1 => ∃ C v, x = .ref C ∧ (∃ mc u, ClX.CRead K C mc ∧ ClX.CVal K C mc f v u) ∧ Q v H1) : ClX.tCVal K ta f σ H Q := by
  have e : (fun x H1 => ∃ C v, x = V.ref C ∧ (∃ mc u, ClX.CRead K C mc ∧ ClX.CVal K C mc f v u) ∧ Q v H1) = (fun x H1 => ∃ C mc v u, x = .ref C ∧ ClX.CRead K C mc ∧ ClX.CVal K C mc f v u ∧ Q v H1) := by
    funext x H1
    apply propext
    constructor
    · rintro ⟨C, v, e, ⟨mc, u, h1, h2⟩, q⟩
      exact ⟨C, mc, v, u, e, h1, h2, q⟩
    · rintro ⟨C, mc, v, u, e, h1, h2, q⟩
      exact ⟨C, v, e, ⟨mc, u, h1, h2⟩, q⟩
  show ta σ H _
  rw [← e]
  exact h
theorem k_cval2 {F : V → Prop} {C : Addr} {f : Str} {v : V} (h : ∃ mc u, ClX.CRead K C mc ∧ ClX.CVal K C mc f v u) (q : F v) : ∃ C' v', V.ref C = .ref C' ∧ (∃ mc u, ClX.CRead K C' mc ∧ ClX.CVal K C' mc f v' u) ∧ F v' := ⟨C, v, rfl, h, q⟩
end
end M
/-! o.m(..) where m is a staticmethod of o's class -/
namespace M
open PySem PySem.Spec PyProof.Rows L2 Evl
/-- m of C is a staticmethod: its record at p, its def at g -/
structure StatM (K : PySem.W.Frag) (C : Addr) (m : Str) (p g : Addr) : Prop where
  pg : PySem.W.plainGet K C Str.empty = true
  ic : PySem.W.isClsIn K C = true
  fnd : PySem.W.findIn K (.ref C) m = some (some (.ref p))
  ty : PySem.W.typeIn K (.ref p) = some (.type "staticmethod")
  get : PySem.W.specialIn K (.ref p) "__get__" = some (some (.builtin "staticmethod.__get__"))
  tk : PySem.W.takesIn K (.ref p) = some false
  cp : PySem.W.copiedNames.contains m = false
  rc : ∃ rest, PySem.W.recIn K p "staticmethod" = some (.ref g :: rest)
  hand : PySem.W.handedIn (.ref g) = true
  kp : PySem.W.keepIn K (.ref g) = true
theorem get_stat {X : Cx} {pins : List (Addr × Obj)} {σ : L2.St} {H : Hp} {s : Shared} {a C p g : Addr} {m : Str} {A : Around} {E : Value → Shared → Prop} {pl : Sem Bool} {ox od : Obj} {Q : Value × List Value → Shared → Prop} (I : Inv X pins σ H s)
    (J : PySem.W.InstAt s.heap a ox C (some od)) (hl : PySem.W.lookIn m od = some none) (k : StatM X.K C m p g) (h : ∀ s', Inv X pins σ H s' → Q (.ref g, []) s') : wpAny (model X.prog X.w) A (getMethod (.ref a) m pl) Q E s := by
  obtain ⟨rest, hp⟩ := k.rc
  have pg : PySem.W.plainGet X.K C m = true := k.pg
  refine PySem.W.method_usual (r := some (.ref p)) I.kIn J (PySem.W.plainGet_of pg).1 (PySem.W.plainGet_of pg).2 k.fnd ?_ ?_
  · show ((PySem.W.typeIn X.K (.ref p)).any fun t => t != .type "function" && t != .type "method_descriptor" && t != .type "wrapper_descriptor") = true
    rw [k.ty]
    first
    | rfl
    | decide +kernel
  · refine PySem.W.get_bind I.kIn J (PySem.W.plainGet_of pg).1 (ClX.find_cm k.ic k.fnd k.get k.tk k.cp hl) (PySem.W.plainGet_of pg).2 ?_
    refine wpAny_call (PySem.W.sm_get (s := { s with toks := s.toks + 1 }) I.kIn hp (PySem.W.handed_on k.hand ?_))
    exact h _ (I.tok _)
def tStat (C : Addr) (m : Str) (sp : Sp) (E : XK) (ta : TE) (t : TA) : TE := fun σ H Q => ta σ H fun x H1 => ∃ a, x = .ref a ∧ Ins H1 a C m ∧ t σ H1 fun vs H2 => sp vs H2 Q E
theorem pe_stat {X : Cx} {k : Nat} {f C p : Addr} {fd : FuncData} {ps : List Str} {sp : Sp} {E : XK} {m : Str} {pos apos : Pos} {e o : Expr} {es : List Expr} {ta : TE} {t : TA} {pl : Sem Bool} (he : PE X o ta) (c : StatM X.K C m p f)
    (F : FnOk X.prog X.w X.K X.mg X.base CX0 k f fd ps sp) (hr : Room k X.A) (hb : Binds X.K fd ps []) (hx : Passes CX0 X E) (ha : PA X (e :: es) t)
    (hst : starEach (e :: es) X.env = (false, eval e X.env) :: starEach es X.env := by rfl) (hpl : (backTo pos (starEach es X.env)).any (·.1) = false := by rfl)
    (ht : eval (.Call (.Attribute o m apos) (e :: es) [] pos) X.env = (do
      let ov ← eval o X.env
      standAt apos.atName
      let (f, first) ← holding [ov] (getMethod ov m pl)
      callWith pos f first (backTo pos (starEach (e :: es) X.env)) (backToKw pos (keywordEach [] X.env))) := by rfl) :
    PE X (.Call (.Attribute o m apos) (e :: es) [] pos) (tStat C m sp E ta t) := by
  refine ⟨fun pins s σ H Q I h => ?_⟩
  refine PySem.W.methodCall_KW (pl := pl) (thn (he.run pins s σ H _ I h) fun u s1 ⟨x, H1, I1, rx, a, ex, ⟨dx, fs, ea, l⟩, q⟩ => ?_) ht
  subst ex
  obtain rfl : u = Value.ref a := rx
  obtain ⟨mA, O, rr, _, _, _⟩ := ins_get I1.hok ea
  have hn : mA m = none := RelO.none_of (by rw [← l]; exact rr m)
  obtain ⟨od, J, hl⟩ := O.look
  refine get_stat I1 J (by rw [hl m, hn]) c fun s2 I2 => ?_
  refine PySem.W.callWith_K (first := []) (h₀ := X.base) I2.ok.mod.kin c.kp (thn (ha.run pos pins s2 σ H1 _ I2 q) fun us s3 ⟨vs, H2, I3, r, q2⟩ => ⟨I3.kIn, ?_⟩) hst hpl
  have q3 : sp (vs ++ []) H2 Q E := by
    rw [List.append_nil]
    exact q2
  exact run_fn F hr hb .nil hx I3 r q3
theorem k_stat {C : Addr} {m : Str} {sp : Sp} {E : XK} {ta : TE} {tr : TA} {σ : L2.St} {H : Hp} {Q : VK} (h : ta σ H fun x H1 => ∃ a, x = .ref a ∧ Ins H1 a C m ∧ tr σ H1 fun vs H2 => sp vs H2 Q E) : tStat C m sp E ta tr σ H Q := h
theorem k_stat2 {a C : Addr} {m : Str} {sp : Sp} {E : XK} {tr : TA} {σ : L2.St} {H : Hp} {Q : VK} (h : Ins H a C m) (q : tr σ H fun vs H2 => sp vs H2 Q E) : ∃ a', V.ref a = .ref a' ∧ Ins H a' C m ∧ tr σ H fun vs H2 => sp vs H2 Q E := ⟨a, rfl, h, q⟩
end M
/-! super().__init__(..) in the __init__ of an own class over an own class -/
namespace M
open PySem PySem.Spec PyProof.Rows L2 Evl NdefX
/-- a block while the def's own code is the one that runs -/
structure QS (X : Cx) (body : List Stmt) (st : List Stmt) (t : TS) : Prop where
  run : ∀ (pins : List (Addr × Obj)) (s : Shared) (σ : L2.St) (H : Hp) (D : Ends), Inv X pins σ H s → t D σ H → PySem.wpAt (model X.prog X.w) X.A (.func body X.env) (execs st X.env) (L2.SP X pins D) X.xe s
theorem QS.of {X : Cx} {body st : List Stmt} {t : TS} (h : PSs X st t) : QS X body st t := ⟨fun pins s σ H D I q => wpAt_of_wpAny (h.run pins s σ H D I q)⟩
theorem QS.cons {X : Cx} {body : List Stmt} {st : Stmt} {rest : List Stmt} {t u : TS} (h1 : PS X st t) (h2 : QS X body rest u) : QS X body (st :: rest) (tSeq t u) := by
  refine ⟨fun pins s σ H D I h => ?_⟩
  refine ks_wpAt_execs_cons (wpAt_of_wpAny (thn (h1.run pins s σ H { D with nx := u D } I h) fun f s1 q => ?_))
  cases f with
  | next =>
    obtain ⟨σ', H', I', q⟩ := q
    exact h2.run pins s1 σ' H' D I' q
  | ret v => exact q
  | brk => exact q
  | cont => exact q
/-- what K has of a def f of the class at D that says super().__init__: f2 is what it finds for an instance of C -/
structure SupK (prog : Program) (K : PySem.W.Frag) (C D f f2 cc cda : Addr) (fd : FuncData) : Prop where
  isD : ∃ cdD, PySem.W.clsIn K D = some cdD
  sup : PySem.W.ks_superIn K C D "__init__" = some (some (.ref f2))
  sub : PySem.W.mroIn K C (.ref D) = some true
  opq : PySem.W.nsIn K cStatics "thirdparty.any" = some none
  ty2 : PySem.W.typeIn K (.ref f2) = some (.type "function")
  fn2 : PySem.W.fnIn K f2 = true
  own : ∃ oc od osl, K.lookup f = some ⟨oc, od, .func fd, osl⟩
  par : ∃ ar : Arg, (fd.params.posonlyargs ++ fd.params.args).head? = some ar ∧ ar.arg = "self"
  code : ∃ ccl cdd vs ccs file tf, K.lookup cda = some ⟨ccl, cdd, .fields vs, ccs⟩ ∧ vs[2]? = some (.str file tf) ∧ ((prog.main.file : Str) == file) = true
  cell : ∃ cl cld csl, K.lookup cc = some ⟨cl, cld, .cell (some (.ref D)), csl⟩
  top : (prog.main.scope.names.lookup ("super" : Str)).isSome = false
def tSup (C : Addr) (sp : Sp) (E : XK) (t : TA) : TE := fun σ H Q => ∃ a dx fs, σ[0]? = some (some (V.ref a)) ∧ H a = some (.ins C dx fs) ∧ t σ H fun vs H1 => sp (.ref a :: vs) H1 Q E
theorem cls_obj {K : PySem.W.Frag} {D : Addr} {cdD : ClassData} {h : Heap} (X : K.In h) (e : PySem.W.clsIn K D = some cdD) : ∃ oD, h.get? D = some oD ∧ oD.data = .cls cdD := by
  unfold PySem.W.clsIn at e
  split at e
  · rename_i c d cd' sl ho
    cases e
    exact ⟨_, X _ _ ho, rfl⟩
  · cases e
theorem qs_super {X : Cx} {body : List Stmt} {C D f f2 cc cda : Addr} {fd : FuncData} {sp : Sp} {k : Nat} {e : Expr} {es : List Expr} {t : TA} {rest : List Stmt} {u : TS} {p0 p1 apos pos pos' : Pos} {pl : Sem Bool}
    (S : SupK X.prog X.K C D f f2 cc cda fd) (hf : X.env.func = some f) (hcd : X.env.code = .ref cda) (hce : X.env.cells.lookup ("__class__" : Str) = some cc)
    (hks : X.env.kindOf "super" = some .globalImplicit) (hkc : X.env.kindOf "__class__" = some .free) (hka : X.env.kindOf "self" = some .local) (hN : X.N[0]? = some ("self" : Str)) (hm : X.mg "super" = none)
    (G : FnR X.prog X.w X.K X.mg X.base CX0 k f2 sp) (hr : Room k X.A) (ha : PA X (e :: es) t) (hb : QS X body rest u)
    (hst : starEach (e :: es) X.env = (false, eval e X.env) :: starEach es X.env := by rfl) (hpl : (backTo pos (starEach es X.env)).any (·.1) = false := by rfl)
    (hev : eval (.Call (.Attribute (.Call (.Name "super" p0) [] [] p1) "__init__" apos) (e :: es) [] pos) X.env = (do
      let ov ← attributeBase (.Call (.Name "super" p0) [] [] p1) "__init__" X.env (eval (.Call (.Name "super" p0) [] [] p1) X.env)
      standAt apos.atName
      let (f, first) ← holding [ov] (getMethod ov "__init__" pl)
      callWith pos f first (backTo pos (starEach (e :: es) X.env)) []) := by rfl)
    (hsw : swapsWith (.Call (.Attribute (.Call (.Name "super" p0) [] [] p1) "__init__" apos) (e :: es) [] pos) none pos'.line X.env = pure false := by rfl) :
    QS X body (.Expr (.Call (.Attribute (.Call (.Name "super" p0) [] [] p1) "__init__" apos) (e :: es) [] pos) pos' :: rest) (tSeq (tDrop (tSup C sp E0 t)) u) := by
  refine ⟨fun pins s σ H Dd I h => ?_⟩
  obtain ⟨a, dx, fs, h0, ho, hq⟩ := h
  refine ks_wpAt_execs_cons (ks_wpAt_Expr_any (ks_wpAt_MethodCall (pl := pl) ?_ hev) I.quiet hsw)
  obtain ⟨oc, od, osl, lf⟩ := S.own
  obtain ⟨ar, hp, har⟩ := S.par
  obtain ⟨ccl, cdd, vs, ccs, file, tf, lc, hvs, hfile⟩ := S.code
  obtain ⟨cl, cld, csl, lcell⟩ := S.cell
  obtain ⟨cdD, hD⟩ := S.isD
  have KX := I.kIn
  obtain ⟨oD, hD1, hD2⟩ := cls_obj KX hD
  obtain ⟨mA, O, _⟩ := ins_get I.hok ho
  obtain ⟨odx, J, _⟩ := O.look
  obtain ⟨m, hn, hl⟩ := id I.loc
  refine ks_wpAt_super_base (env := X.env) hks hkc (by decide) hf (KX _ _ lf) rfl hp hcd (KX _ _ lc) rfl hvs hfile S.top ?_
  refine PySem.W.ks_loadName_global I.ok.kind hks ?_
  obtain ⟨mb, b1, b2⟩ := I.mod.blt
  refine Calls.loadGlobal_builtin (by rw [I.ok.glob]; exact I.mod.glob.keeps I.bk) hm (by rw [I.ok.blt]; exact b1.keeps I.bk) ((b2 "super" (by decide)).trans (by decide +kernel)) ⟨rfl, ?_⟩
  refine wpAny_loadName_free I.ok.kind hkc hce ⟨_, KX _ _ lcell, rfl⟩ ?_
  rw [har]
  obtain ⟨us, ru, lk⟩ := hl 0 "self" (V.ref a) hN h0 (.inl hka)
  obtain rfl : us = Value.ref a := ru
  have hself : m "self" = some (.ref a) := by
    rcases lk with ⟨_, q⟩ | ⟨q, _⟩
    · exact q
    · rw [hka] at q
      rcases q with q | q <;> cases q
  refine wpAny_loadName_local I.ok.kind hka hn hself ?_
  obtain ⟨hh, g, d, tk, os⟩ := s
  refine ks_wpAny_isType_cls hD1 hD2 ⟨rfl, ?_⟩
  refine ks_wpAny_call_super hD1 hD2 J.at_ J.cls (fun c ec => ?_) (PySem.W.looks_mroIn KX S.sub) (fun h' e1 k1 => ?_)
  · have q := J.no
    unfold PySem.W.notCls at q
    rw [ec] at q
    exact Bool.noConfusion q
  have I2 : Inv X ((hh.objs.size, PySem.W.ks_superObj D a C) :: pins) σ H ⟨h', g, d, tk, os⟩ := ClX.pin_new (s := ⟨hh, g, d, tk, os⟩) (t' := tk) I k1 (Nat.le_refl _) e1 (fun v q => nomatch q)
  have KX2 := I2.kIn
  have sup := S.sup
  unfold PySem.W.ks_superIn at sup
  cases hc : PySem.W.clsIn X.K C with
  | none =>
    rw [hc] at sup
    cases sup
  | some cd =>
    rw [hc] at sup
    obtain ⟨of, hof, hofc⟩ : ∃ of, h'.get? f2 = some of ∧ of.cls = .type "function" := by
      have ht' : (X.K.lookup f2).map (·.cls) = some (.type "function") := S.ty2
      cases z : X.K.lookup f2 with
      | none =>
        rw [z] at ht'
        cases ht'
      | some of =>
        rw [z] at ht'
        exact ⟨of, KX2 _ _ z, Option.some.inj ht'⟩
    refine ks_wpAny_getMethod_super e1 (PySem.W.looks_opaque KX2 S.opq) (l₀ := cd.mro) ?_ rfl KX2 sup hof hofc (PySem.W.ks_ne KX J hc) (by decide) ?_
    · exact fun A Q E s k q => wpAny_bind ((PySem.W.looks_clsIn KX2 hc) A _ E s k (wpAny_pure q))
    have I3 := ClX.met_new (g := f2) (C := a) I2
    refine ClX.callwith_cm I3 (ClX.base_none I2 (Nat.le_refl _)) S.fn2 (thn (ha.run pos _ _ σ H _ I3 hq) fun us s3 ⟨vs, H2, I4, rv, q2⟩ => ⟨⟨ClX.pin_at I4, I4.kIn⟩, ?_⟩) hst hpl
    refine thn (ClX.run_cm G hr pass0 I4 rv q2) fun u s4 hu => ?_
    obtain ⟨v, H3, I5, _, q3⟩ := ClX.unpinE hu
    exact hb.run pins s4 σ H3 Dd I5 q3
/-- a def with a captured __class__, of the written part -/
structure FunS (K : PySem.W.Frag) (x qual : Str) (params : Arguments) (body : List Stmt) (scope : Scope) (cc cda : Addr) (dvs : List V) (kws : List (Str × V)) (f : Addr) (fd : FuncData) : Prop where
  ex : ∃ (oc : Value) (od : Option Addr) (dV kV doc pm : Value) (an : Option Addr) (ct : Value) (osl : Array (Option Value)),
    fd = PySem.W.fnX x qual params body scope [("__class__", cc)] dV kV doc pm an (.ref cda) ct ∧ K.lookup f = some ⟨oc, od, .func fd, osl⟩ ∧ PySem.W.codeIn K (.ref cda) qual = true ∧ DflV K dV dvs ∧ KwdV K kV kws
  kp : PySem.W.keepIn K (.ref f) = true
  cell : ∃ ocl, K.lookup cc = some ocl ∧ ∃ v, ocl.data = .cell v
theorem fnS_of {P : Program} {w : World} {K : PySem.W.Frag} {mg : Str → Option Value} {base : Heap} {k : Nat} {f cc cda : Addr} {x qual : Str} {params : Arguments} {body : List Stmt} {scope : Scope} {dvs : List V} {kws : List (Str × V)} {fd : FuncData} {N ps : List Str} {sp : Sp}
    (F : FunS K x qual params body scope cc cda dvs kws f fd) (S : NScope N ps ["__class__"] scope) (len : ∀ vs H Q E, sp vs H Q E → vs.length = ps.length)
    (hbody : ∀ (A : Around) (outer : List Env) (s : Shared) (H : Hp) (vs : List V) (Q : VK) (E : XK), Room k (A.deeper (envF ⟨x, qual, params, body, scope, [("__class__", cc)], cda⟩ f s.heap.objs.size)) → sp vs H Q E →
      ∃ t, QS (ncx CX0 P w K mg base N ⟨x, qual, params, body, scope, [("__class__", cc)], cda⟩ f A outer s H E) body body t ∧ t { nx := fun _ H' => Q .non H', rt := Q } (startF N vs [none]) H) : FnOk P w K mg base CX0 (k + 1) f fd ps sp := by
  obtain ⟨oc, od, dV, kV, doc, pm, an, ct, osl, rfl, lk, hcd, _, _⟩ := F.ex
  obtain ⟨ocl, hcl, vcl, hvcl⟩ := F.cell
  refine ⟨len, fun A outer s H args us vs Q E hr e0 hb r hsp => ?_⟩
  have KX : K.In s.heap := e0.mod.kin.keeps fun b o e => (e0.bs b o e).1
  have hl := len _ _ _ _ hsp
  have lim : s.heap.NoLimit := e0.mod.nolimit.keeps fun b o e => (e0.bs b o e).1
  have one : ∀ y c, ([("__class__", cc)] : List (Str × Addr)).lookup y = some c → c = cc ∧ y = "__class__" := fun y c e => by
    have e2 := PySem.mem_of_lookup e
    have e3 : (y, c) = (("__class__" : Str), cc) := by simpa using e2
    exact ⟨(Prod.mk.inj e3).2, (Prod.mk.inj e3).1⟩
  have C : CellsAt ([("__class__", cc)] : List (Str × Addr)) ["__class__"] [none] s.heap H := by
    refine ⟨rfl, fun y c e => ?_, fun x y c e1 e2 => ?_, fun i y e => ?_⟩
    · obtain ⟨rfl, _⟩ := one y c e
      refine ⟨?_, vcl, _, KX _ _ hcl, hvcl⟩
      exact (e0.bs _ _ (e0.mod.kin _ _ hcl)).2
    · rw [(one _ _ e1).2, (one _ _ e2).2]
    · cases i with
      | zero =>
        have ey : ("__class__" : Str) = y := by simpa using e
        subst ey
        refine ⟨cc, ?_, fun v q => ?_⟩
        · have : (("__class__" : Str) == "__class__") = true := beq_self_eq_true _
          simp [List.lookup]
        · simp at q
      | succ i => simp at e
  refine ks_codeAny_call_defAt (body := body) (binds := ps.zip us) hr.depth (KX _ _ lk) rfl lim (PySem.W.codeRec_of KX hcd) rfl hb S.nocell (fun ⟨n, _⟩ hy => S.par n (List.of_mem_zip hy).1) (fun h₁ hns kp => ?_) S.co S.gen S.kind
  obtain ⟨t, ht, hq⟩ := hbody A outer s H vs Q E (hr.deeper _) hsp
  have I : Inv (ncx CX0 P w K mg base N ⟨x, qual, params, body, scope, [("__class__", cc)], cda⟩ f A outer s H E) [] (startF N vs [none]) H { s with heap := h₁, toks := s.toks + (ps.zip us).length } := inv_startN S hr.hd e0 hl r C hns kp
  refine ks_wpAt_mono (ht.run [] _ (startF N vs [none]) H _ I hq) (fun fl s' hs => ?_) fun e s' hs => hs
  have fin : ∀ {σ' : L2.St} {H' : Hp} {v : V} {u : Value}, Inv (ncx CX0 P w K mg base N ⟨x, qual, params, body, scope, [("__class__", cc)], cda⟩ f A outer s H E) [] σ' H' s' → L2.RelV v u → Q v H' → CE outer P w H s Q u s' :=
    fun {σ' H' v u} J rv q => ⟨v, H', J.os, J.bare, J.base, J.hok, rv, q⟩
  cases fl with
  | ret u =>
    obtain ⟨v, σ', H', J, rv, q⟩ := hs
    exact fin J rv q
  | next =>
    obtain ⟨σ', H', J, q⟩ := hs
    exact fin (v := V.non) (u := Value.none) J rfl q
  | brk =>
    obtain ⟨_, _, _, q⟩ := hs
    exact False.elim q
  | cont =>
    obtain ⟨_, _, _, q⟩ := hs
    exact False.elim q
end M
/-! the head's facts by a hook of one's own: defs at any address, with cells -/
namespace M
open PySem PySem.Spec PyProof.Rows L2 Evl
abbrev Fr : Type := PySem.W.Frag
/-- a def as the text has it: where it stands, its cells' names -/
structure DX where
  at_ : Fr → Addr
  name : Str
  qual : Str
  params : Arguments
  body : List Stmt
  scope : Scope
  cells : List Str := []
  dfl : List V := []
  kwd : List (Str × V) := []
abbrev VX : Type := Option (Str × Str × Arguments × FuncBody × Scope × Addr × List Str × Addr)
def DX.val (d : DX) : VX := some (d.name, d.qual, d.params, .stmts d.body, d.scope, mainGlobals, d.cells, builtinsNs)
def DX.see (K : Fr) (d : DX) : VX := match K.lookup (d.at_ K) with
  | some ⟨_, _, .func fd, _⟩ => some (fd.name, fd.qualname, fd.params, fd.body, fd.scope, fd.globals, fd.closure.map (·.1), fd.builtins)
  | _ => none
def DX.ok (K : Fr) (d : DX) : Bool := PySem.W.keepIn K (.ref (d.at_ K)) && (match K.lookup (d.at_ K) with
  | some ⟨_, _, .func fd, _⟩ => PySem.W.codeIn K fd.code d.qual && (He.dflB K fd.defaults d.dfl && He.kwdB K fd.kwdefaults d.kwd)
  | _ => false)
theorem DX.funD {K : Fr} {d : DX} (e : d.see K = d.val) (c : d.ok K = true) (hc : d.cells = []) : ∃ fd, FunD K d.name d.qual d.params d.body d.scope d.dfl d.kwd (d.at_ K) fd := by
  obtain ⟨kp, c2⟩ := He.ba c
  unfold DX.see at e
  cases q : K.lookup (d.at_ K) with
  | none =>
    rw [q] at c2
    cases c2
  | some o =>
    obtain ⟨oc, od, dt, osl⟩ := o
    rw [q] at c2 e
    cases dt with
    | func fd =>
      obtain ⟨n1, n2, n3, n4, n5, n6, n7, n8, n9, n10, n11, n12, n13, n14, n15⟩ := fd
      have e2 : (some (n1, n2, n3, n4, n5, n6, n7.map (·.1), n15) : VX) = some (d.name, d.qual, d.params, .stmts d.body, d.scope, mainGlobals, d.cells, builtinsNs) := e
      simp only [Option.some.injEq, Prod.mk.injEq] at e2
      obtain ⟨h1, h2, h3, h4, h5, h6, h7, h8⟩ := e2
      rw [hc] at h7
      have h7 := List.map_eq_nil_iff.mp h7
      subst h1 h2 h3 h4 h5 h6 h7 h8
      have c3 : (PySem.W.codeIn K n13 d.qual && (He.dflB K n8 d.dfl && He.kwdB K n9 d.kwd)) = true := c2
      obtain ⟨k1, k2⟩ := He.ba c3
      obtain ⟨k3, k4⟩ := He.ba k2
      exact ⟨_, ⟨oc, od, n8, n9, n10, n11, n12, n13, n14, osl, rfl, q, k1, He.dflB_ok k3, He.kwdB_ok k4⟩, kp⟩
    | _ => cases c2
def ccOf (K : Fr) (f : Addr) : Addr := match K.lookup f with
  | some ⟨_, _, .func fd, _⟩ => (match fd.closure with
    | (_, c) :: _ => c
    | _ => 0)
  | _ => 0
def cdaOf (K : Fr) (f : Addr) : Addr := match K.lookup f with
  | some ⟨_, _, .func fd, _⟩ => (match fd.code with
    | .ref c => c
    | _ => 0)
  | _ => 0
theorem codeIn_ref1 {K : Fr} {cd : Value} {q : Str} (h : PySem.W.codeIn K cd q = true) : ∃ c, cd = .ref c := by
  cases cd with
  | ref c => exact ⟨c, rfl⟩
  | _ => cases h
theorem DX.funS {K : Fr} {d : DX} (e : d.see K = d.val) (c : d.ok K = true) (hc : d.cells = [("__class__" : Str)]) (hcell : ∃ ocl, K.lookup (ccOf K (d.at_ K)) = some ocl ∧ ∃ v, ocl.data = .cell v) :
    ∃ fd, FunS K d.name d.qual d.params d.body d.scope (ccOf K (d.at_ K)) (cdaOf K (d.at_ K)) d.dfl d.kwd (d.at_ K) fd ∧ fd.params = d.params ∧ ∃ oc od osl, K.lookup (d.at_ K) = some ⟨oc, od, .func fd, osl⟩ := by
  obtain ⟨kp, c2⟩ := He.ba c
  unfold DX.see at e
  cases q : K.lookup (d.at_ K) with
  | none =>
    rw [q] at c2
    cases c2
  | some o =>
    obtain ⟨oc, od, dt, osl⟩ := o
    rw [q] at c2 e
    cases dt with
    | func fd =>
      obtain ⟨n1, n2, n3, n4, n5, n6, n7, n8, n9, n10, n11, n12, n13, n14, n15⟩ := fd
      have e2 : (some (n1, n2, n3, n4, n5, n6, n7.map (·.1), n15) : VX) = some (d.name, d.qual, d.params, .stmts d.body, d.scope, mainGlobals, d.cells, builtinsNs) := e
      simp only [Option.some.injEq, Prod.mk.injEq] at e2
      obtain ⟨h1, h2, h3, h4, h5, h6, h7, h8⟩ := e2
      rw [hc] at h7
      obtain ⟨cc, rfl⟩ : ∃ cc, n7 = [(("__class__" : Str), cc)] := by
        cases n7 with
        | nil => cases h7
        | cons a r =>
          cases r with
          | nil =>
            obtain ⟨x, cc⟩ := a
            have : x = "__class__" := by simpa using h7
            exact ⟨cc, by rw [this]⟩
          | cons b r => simp at h7
      subst h1 h2 h3 h4 h5 h6 h8
      have c3 : (PySem.W.codeIn K n13 d.qual && (He.dflB K n8 d.dfl && He.kwdB K n9 d.kwd)) = true := c2
      obtain ⟨k1, k2⟩ := He.ba c3
      obtain ⟨k3, k4⟩ := He.ba k2
      obtain ⟨cda, rfl⟩ := codeIn_ref1 k1
      have ec : ccOf K (d.at_ K) = cc := by
        unfold ccOf
        rw [q]
      have ed : cdaOf K (d.at_ K) = cda := by
        unfold cdaOf
        rw [q]
      rw [ec] at hcell ⊢
      rw [ed]
      exact ⟨_, ⟨⟨oc, od, n8, n9, n10, n11, n12, n14, osl, rfl, q, k1, He.dflB_ok k3, He.kwdB_ok k4⟩, kp, hcell⟩, rfl, oc, od, osl, rfl⟩
    | _ => cases c2
/-! ### facts by Bool -/
def fileIs (fl : Str) (vs : Array Value) : Bool := match vs[2]? with
  | some (Value.str f _) => fl == f
  | _ => false
section
open PySem.W
def eqO (a b : Option (Option Value)) : Bool := decide (a = b)
theorem eqO_ok {a b : Option (Option Value)} (h : eqO a b = true) : a = b := of_decide_eq_true h
def gloB (x : Str) (K : Fr) : Bool := (He.Fa.glo x).ok K
def freeB (x : Str) (K : Fr) : Bool := (He.Fa.free x).ok K
def intB (x : Str) (i : Int) (K : Fr) : Bool := (He.Fa.int x i).ok K
def clsB (x : Str) (K : Fr) : Bool := (He.Fa.cls x).ok K
def noatB (x f : Str) (K : Fr) : Bool := (He.Fa.noat x f).ok K
def mkB (x : Str) (K : Fr) : Bool := (He.Fa.mkr x).ok K
/-- x's method m is that of y -/
def methB (x m y : Str) (K : Fr) : Bool := eqO (findIn K (.ref (He.ga K x)) m) (some (some (.ref (He.ma K (He.ga K y) m)))) && (isFn K (.ref (He.ma K (He.ga K y) m)) && keepIn K (.ref (He.ma K (He.ga K y) m)))
theorem methB_ok {x m y : Str} {K : Fr} (c : methB x m y K = true) : Meth K (He.ga K x) m (He.ma K (He.ga K y) m) := by
  obtain ⟨c1, c⟩ := He.ba c
  obtain ⟨c2, c3⟩ := He.ba c
  exact ⟨eqO_ok c1, c2, c3⟩
def tyB (x : Str) (K : Fr) : Bool := eqO (findIn K (.ref (He.ga K x)) "__class__") (some (some (.builtin "object.__class__"))) && (eqO (specialIn K (.builtin "object.__class__") "__get__") (some (some (.builtin "getset_descriptor.__get__"))) &&
  (decide (takesIn K (.builtin "object.__class__") = some true) && decide (mroIn K (He.ga K x) (.type "object") = some true)))
theorem tyB_ok {x : Str} {K : Fr} (c : tyB x K = true) : TyI K (He.ga K x) := by
  obtain ⟨c1, c⟩ := He.ba c
  obtain ⟨c2, c⟩ := He.ba c
  obtain ⟨c3, c4⟩ := He.ba c
  exact ⟨eqO_ok c1, eqO_ok c2, of_decide_eq_true c3, of_decide_eq_true c4⟩
def kitB (x y : Str) (b : Bool) (K : Fr) : Bool := decide (kitOne K (.ref (He.ga K x)) (.ref (He.ga K y)) = some b)
theorem kitB_ok {x y : Str} {b : Bool} {K : Fr} (c : kitB x y b K = true) : kitOne K (.ref (He.ga K x)) (.ref (He.ga K y)) = some b := of_decide_eq_true c
def callB (x m : Str) (K : Fr) : Bool := eqO (findIn K (.ref (He.ga K x)) m) (some (some (.ref (He.ma K (He.ga K x) m)))) && (isFn K (.ref (He.ma K (He.ga K x) m)) && fnIn K (He.ma K (He.ga K x) m))
theorem callB_ok {x m : Str} {K : Fr} (c : callB x m K = true) : findIn K (.ref (He.ga K x)) m = some (some (.ref (He.ma K (He.ga K x) m))) ∧ isFn K (.ref (He.ma K (He.ga K x) m)) = true ∧ fnIn K (He.ma K (He.ga K x) m) = true := by
  obtain ⟨c1, c⟩ := He.ba c
  obtain ⟨c2, c3⟩ := He.ba c
  exact ⟨eqO_ok c1, c2, c3⟩
def mostB (x f : Str) (i : Int) (K : Fr) : Bool := readsIn K (He.ga K x) (.type "type") && (eqO (specialIn K (.ref (He.ga K x)) "__getattribute__") (some (some (.builtin "type.__getattribute__"))) && (match findCls K (.ref (He.ga K x)) (.type "type") f with
  | some (.val u) => He.relB (.int i) u
  | _ => false))
theorem mostB_ok {x f : Str} {i : Int} {K : Fr} (c : mostB x f i K = true) : ∃ mc u, ClX.CRead K (He.ga K x) mc ∧ ClX.CVal K (He.ga K x) mc f (.int i) u := by
  obtain ⟨c1, c⟩ := He.ba c
  obtain ⟨c2, c3⟩ := He.ba c
  cases e : findCls K (.ref (He.ga K x)) (.type "type") f with
  | none =>
    rw [e] at c3
    cases c3
  | some r =>
    rw [e] at c3
    cases r with
    | val u => exact ⟨.type "type", u, ⟨c1, eqO_ok c2⟩, ⟨e, He.relB_ok c3⟩⟩
    | _ => cases c3
def tupAt (p : Fr → Addr) (vs : Fr → List V) (K : Fr) : Bool := match K.lookup (p K) with
  | some ⟨.type c, _, .seq its _, _⟩ => decide (c = "tuple") && (decide (its.size ≤ sizeLine) && He.relAll (vs K) its.toList)
  | _ => false
theorem tupAt_ok {p : Fr → Addr} {vs : Fr → List V} {K : Fr} (h : tupAt p vs K = true) (H : Hp) : SqT K H (p K) (vs K) := by
  unfold tupAt at h
  cases q : K.lookup (p K) with
  | none =>
    rw [q] at h
    cases h
  | some o =>
    obtain ⟨oc, od, dt, osl⟩ := o
    rw [q] at h
    cases oc with
    | type c =>
      cases dt with
      | seq its n =>
        obtain ⟨h1, h2⟩ := He.ba (show (decide (c = "tuple") && (decide (its.size ≤ sizeLine) && He.relAll (vs K) its.toList)) = true from h)
        obtain ⟨h3, h4⟩ := He.ba h2
        exact .inr ⟨_, its, n, q, congrArg Value.type (of_decide_eq_true h1), rfl, of_decide_eq_true h3, He.relAll_ok h4⟩
      | _ => cases h
    | _ => cases dt <;> cases h
/-- x's staticmethod need_numbers -/
def statB (x : Str) (K : Fr) : Bool := plainGet K (He.ga K x) Str.empty && (isClsIn K (He.ga K x) && (eqO (findIn K (.ref (He.ga K x)) "need_numbers") (some (some (.ref (He.ma K (He.ga K "WeightRule") "need_numbers")))) &&
  (decide (typeIn K (.ref (He.ma K (He.ga K "WeightRule") "need_numbers")) = some (.type "staticmethod")) && (eqO (specialIn K (.ref (He.ma K (He.ga K "WeightRule") "need_numbers")) "__get__") (some (some (.builtin "staticmethod.__get__"))) &&
  (decide (takesIn K (.ref (He.ma K (He.ga K "WeightRule") "need_numbers")) = some false) && ((match recIn K (He.ma K (He.ga K "WeightRule") "need_numbers") "staticmethod" with
    | some (.ref _ :: _) => true
    | _ => false) && keepIn K (.ref (nnF K))))))))
theorem statB_ok {x : Str} {K : Fr} (c : statB x K = true) : StatM K (He.ga K x) "need_numbers" (He.ma K (He.ga K "WeightRule") "need_numbers") (nnF K) := by
  obtain ⟨c1, c⟩ := He.ba c
  obtain ⟨c2, c⟩ := He.ba c
  obtain ⟨c3, c⟩ := He.ba c
  obtain ⟨c4, c⟩ := He.ba c
  obtain ⟨c5, c⟩ := He.ba c
  obtain ⟨c6, c⟩ := He.ba c
  obtain ⟨c7, c8⟩ := He.ba c
  refine ⟨c1, c2, eqO_ok c3, of_decide_eq_true c4, eqO_ok c5, of_decide_eq_true c6, by decide +kernel, ?_, rfl, c8⟩
  unfold nnF
  cases e : recIn K (He.ma K (He.ga K "WeightRule") "need_numbers") "staticmethod" with
  | none =>
    rw [e] at c7
    cases c7
  | some l =>
    rw [e] at c7
    cases l with
    | nil => cases c7
    | cons v r =>
      cases v with
      | ref g => exact ⟨r, rfl⟩
      | _ => cases c7
/-- x.__init__, that says super().__init__ -/
def iA (x : Str) (K : Fr) : Addr := He.ma K (He.ga K x) "__init__"
def supB (x : Str) (fl : Str) (K : Fr) : Bool := isClsIn K (He.ga K x) && (eqO (ks_superIn K (He.ga K x) (He.ga K x) "__init__") (some (some (.ref (He.ma K (He.ga K "WeightRule") "__init__")))) &&
  (decide (mroIn K (He.ga K x) (.ref (He.ga K x)) = some true) && (eqO (nsIn K cStatics "thirdparty.any") (some none) && (decide (typeIn K (.ref (He.ma K (He.ga K "WeightRule") "__init__")) = some (.type "function")) &&
  (fnIn K (He.ma K (He.ga K "WeightRule") "__init__") && ((match K.lookup (cdaOf K (iA x K)) with
    | some ⟨_, _, .fields vs, _⟩ => fileIs fl vs
    | _ => false) && (match K.lookup (ccOf K (iA x K)) with
    | some ⟨_, _, .cell (some (.ref d)), _⟩ => decide (d = He.ga K x)
    | _ => false)))))))
theorem cellB_ok {K : Fr} {c d : Addr} (h : (match K.lookup c with
    | some ⟨_, _, .cell (some (.ref e)), _⟩ => decide (e = d)
    | _ => false) = true) : ∃ cl cld csl, K.lookup c = some ⟨cl, cld, .cell (some (.ref d)), csl⟩ := by
  split at h
  · rename_i cl cld e csl q
    rw [of_decide_eq_true h] at q
    exact ⟨cl, cld, csl, q⟩
  · cases h
theorem codeB_ok {K : Fr} {c : Addr} {fl : Str} (h : (match K.lookup c with
    | some ⟨_, _, .fields vs, _⟩ => fileIs fl vs
    | _ => false) = true) : ∃ ccl cdd vs ccs file tf, K.lookup c = some ⟨ccl, cdd, .fields vs, ccs⟩ ∧ vs[2]? = some (.str file tf) ∧ (fl == file) = true := by
  split at h
  · rename_i ccl cdd vs ccs q
    unfold fileIs at h
    split at h
    · rename_i file tf q2
      exact ⟨ccl, cdd, vs, ccs, file, tf, q, q2, h⟩
    · cases h
  · cases h
theorem supB_ok {P : Program} {x : Str} {K : Fr} {fd : FuncData} (c : supB x P.main.file K = true) (own : ∃ oc od osl, K.lookup (iA x K) = some ⟨oc, od, .func fd, osl⟩) (par : ∃ ar : Arg, (fd.params.posonlyargs ++ fd.params.args).head? = some ar ∧ ar.arg = "self") (top : (P.main.scope.names.lookup ("super" : Str)).isSome = false) :
    SupK P K (He.ga K x) (He.ga K x) (iA x K) (He.ma K (He.ga K "WeightRule") "__init__") (ccOf K (iA x K)) (cdaOf K (iA x K)) fd := by
  obtain ⟨c1, c⟩ := He.ba c
  obtain ⟨c2, c⟩ := He.ba c
  obtain ⟨c3, c⟩ := He.ba c
  obtain ⟨c4, c⟩ := He.ba c
  obtain ⟨c5, c⟩ := He.ba c
  obtain ⟨c6, c⟩ := He.ba c
  obtain ⟨c7, c8⟩ := He.ba c
  exact ⟨Option.isSome_iff_exists.mp c1, eqO_ok c2, of_decide_eq_true c3, eqO_ok c4, of_decide_eq_true c5, c6, own, par, codeB_ok c7, cellB_ok c8, top⟩
theorem sup_cell {x fl : Str} {K : Fr} (c : supB x fl K = true) : ∃ ocl, K.lookup (ccOf K (iA x K)) = some ocl ∧ ∃ v, ocl.data = .cell v := by
  obtain ⟨_, c⟩ := He.ba c
  obtain ⟨_, c⟩ := He.ba c
  obtain ⟨_, c⟩ := He.ba c
  obtain ⟨_, c⟩ := He.ba c
  obtain ⟨_, c⟩ := He.ba c
  obtain ⟨_, c⟩ := He.ba c
  obtain ⟨_, c8⟩ := He.ba c
  obtain ⟨cl, cld, csl, q⟩ := cellB_ok c8
  exact ⟨_, q, _, rfl⟩
end
/-! ### the hook -/
abbrev AlM : Type := Bool × List VX
def obsM (fx : List (Fr → Bool)) (fn : List DX) (K : Fr) : AlM := ((fx.all fun f => f K) && fn.all fun d => d.ok K, fn.map fun d => d.see K)
def valM (fn : List DX) : AlM := (true, fn.map DX.val)
/-- what an object names, code objects aside -/
def refsM (o : Obj) : List Addr := match o.data with
  | .seq its _ => its.toList.flatMap He.refV
  | .dict es _ => es.toList.flatMap fun e => He.refV e.val
  | .func fd => He.refV fd.code ++ (He.refV fd.defaults ++ (He.refV fd.kwdefaults ++ fd.closure.map (·.2)))
  | .cls cd => cd.ns :: cd.mro.flatMap He.refV
  | .fields vs => (match o.cls with
    | .type "staticmethod" => vs.toList.flatMap He.refV
    | _ => [])
  | _ => []
/-- the new ones of some, none twice -/
def newM (seen : List Addr) : List Addr → List Addr
  | [] => []
  | a :: r => match seen.elem a with
    | true => newM seen r
    | false => a :: newM (a :: seen) r
/-- n steps on from what is new -/
def goM (g : Addr → Option Obj) : Nat → List Addr → List Addr → List Addr
  | 0, seen, _ => seen
  | n + 1, seen, front => (fun nw => goM g n (seen ++ nw) nw) (newM seen (front.flatMap fun a => match g a with
    | some o => refsM o
    | none => []))
def frM (n : Nat) (g : Addr → Option Obj) : Fr := He.frG g (cStatics :: goM g n [mainGlobals] [mainGlobals])
def obsMG (n : Nat) (fx : List (Fr → Bool)) (fn : List DX) (g : Addr → Option Obj) : AlM := obsM fx fn (frM n g)
def SaysM (fx : List (Fr → Bool)) (fn : List DX) (K : Fr) : Prop := obsM fx fn K = valM fn
def hookM (n : Nat) (fx : List (Fr → Bool)) (fn : List DX) : PySem.W.Hook where
  α := AlM
  obs := fun s => obsMG n fx fn s.heap.get?
  val := fun _ => valM fn
  says := fun _ h => ∃ K : Fr, K.In h ∧ SaysM fx fn K
  of := fun _ _ e => ⟨_, He.frG_in, e⟩
  keeps := fun _ _ _ ⟨K, hK, c⟩ k => ⟨K, PySem.W.Frag.In.keeps hK k, c⟩
theorem obsMG_eq {n : Nat} {fx : List (Fr → Bool)} {fn : List DX} {g : Addr → Option Obj} {s : Shared} (h : ∀ a, g a = s.heap.get? a) : obsMG n fx fn g = (hookM n fx fn).obs s := by
  have e : g = s.heap.get? := funext h
  rw [e] <;> rfl
section
variable {fx : List (Fr → Bool)} {fn : List DX} {K : Fr}
theorem SaysM.fact (c : SaysM fx fn K) (i : Nat) {f : Fr → Bool} (h : fx[i]? = some f) : f K = true := by
  have c1 := (He.ba (show ((fx.all fun f => f K) && fn.all fun d => d.ok K) = true from congrArg (fun z : AlM => z.1) c)).1
  exact List.all_eq_true.mp c1 f (List.mem_of_getElem? h)
theorem SaysM.see (c : SaysM fx fn K) (i : Nat) {d : DX} (h : fn[i]? = some d) : d.see K = d.val ∧ d.ok K = true := by
  have c2 := (He.ba (show ((fx.all fun f => f K) && fn.all fun d => d.ok K) = true from congrArg (fun z : AlM => z.1) c)).2
  have e : fn.map (fun d => d.see K) = fn.map DX.val := congrArg (fun z : AlM => z.2) c
  have e2 : (fn.map fun d => d.see K)[i]? = (fn.map DX.val)[i]? := by rw [e]
  rw [List.getElem?_map, List.getElem?_map, h] at e2
  exact ⟨Option.some.inj e2, List.all_eq_true.mp c2 d (List.mem_of_getElem? h)⟩
theorem SaysM.def_ (c : SaysM fx fn K) (i : Nat) {d : DX} (h : fn[i]? = some d) (hc : d.cells = []) : ∃ fd, FunD K d.name d.qual d.params d.body d.scope d.dfl d.kwd (d.at_ K) fd := DX.funD (c.see i h).1 (c.see i h).2 hc
end
end M
namespace M
namespace Hd
open PySem PySem.Spec PyProof.Rows L2 Evl
abbrev PX : Program := PySem.Challenge.rw_evenrules_k64_whole_try_rules_and_turn_r.prog
def fx0 : List (Fr → Bool) := [
  mostB "WeightRule" "MOST" 6,
  gloB "is_integer",
  gloB "is_within",
  gloB "is_times",
  gloB "need_plus",
  gloB "need_weight",
  gloB "need_weight_rule",
  gloB "need_deed",
  gloB "all_cases",
  gloB "need_case",
  gloB "added",
  gloB "scaled",
  gloB "has_three",
  gloB "fair_tests",
  gloB "unfair_test",
  gloB "turn_tests",
  gloB "break_test",
  gloB "tests_in",
  gloB "numbers_break",
  gloB "over",
  gloB "heavy_weights",
  gloB "wrong_at",
  gloB "breaks",
  gloB "_law_pen",
  gloB "_law_draw",
  gloB "_law_pick",
  gloB "_law_numbers",
  gloB "_law_rule",
  gloB "_law_carried",
  gloB "_law_pair_right"]
def fx1 : List (Fr → Bool) := [
  gloB "law",
  gloB "WeightRule",
  gloB "TurnRule",
  gloB "TryRule",
  gloB "Test",
  gloB "Case",
  gloB "Forms",
  gloB "Pair",
  gloB "Wrong",
  gloB "DEEDS",
  gloB "ONCE",
  gloB "INNER",
  gloB "TWICE",
  intB "MOST_PLUS" 6,
  intB "MOST_TURN" 8,
  intB "MOST_WEIGHT" 1000000000000000000000000000000000000000000000000000000000000,
  intB "MOST_PARTS" 5,
  intB "MOST_ASKED" 1000000000000,
  freeB "isinstance",
  freeB "int",
  freeB "bool",
  freeB "str",
  freeB "list",
  freeB "tuple",
  freeB "len",
  freeB "min",
  freeB "max",
  freeB "abs",
  freeB "sum",
  freeB "all"]
def fx2 : List (Fr → Bool) := [
  freeB "range",
  freeB "zip",
  freeB "super",
  clsB "TryRule",
  tyB "TryRule",
  noatB "TryRule" "times",
  noatB "TryRule" "plus",
  methB "TryRule" "beside" "WeightRule",
  methB "TryRule" "greatest" "WeightRule",
  clsB "TurnRule",
  tyB "TurnRule",
  noatB "TurnRule" "times",
  noatB "TurnRule" "plus",
  noatB "TurnRule" "turn",
  noatB "TurnRule" "turn_plus",
  methB "TurnRule" "beside" "WeightRule",
  methB "TurnRule" "greatest" "WeightRule",
  clsB "Test",
  tyB "Test",
  noatB "Test" "parts",
  noatB "Test" "bound",
  methB "Test" "amount" "Test",
  clsB "Case",
  tyB "Case",
  noatB "Case" "deed",
  noatB "Case" "once",
  noatB "Case" "twice",
  clsB "Forms",
  tyB "Forms",
  noatB "Forms" "units"]
def fx3 : List (Fr → Bool) := [
  noatB "Forms" "light",
  noatB "Forms" "outer",
  noatB "Forms" "near",
  noatB "Forms" "far",
  noatB "Forms" "inner",
  methB "Forms" "heavy_form" "Forms",
  methB "Forms" "sides" "Forms",
  clsB "Pair",
  tyB "Pair",
  noatB "Pair" "rule",
  noatB "Pair" "p",
  noatB "Pair" "q",
  noatB "Pair" "more",
  noatB "Pair" "light",
  noatB "Pair" "heavy",
  methB "Pair" "inner_stretch" "Pair",
  methB "Pair" "turned_stretch" "Pair",
  methB "Pair" "once_stretch" "Pair",
  methB "Pair" "near_stretch" "Pair",
  methB "Pair" "near_for" "Pair",
  methB "Pair" "stretch_of" "Pair",
  methB "Pair" "can_break" "Pair",
  methB "Pair" "numbers_for" "Pair",
  clsB "Wrong",
  tyB "Wrong",
  noatB "Wrong" "deed",
  noatB "Wrong" "once",
  noatB "Wrong" "twice",
  noatB "Wrong" "numbers",
  mkB "Test"]
def fx4 : List (Fr → Bool) := [
  mkB "Case",
  mkB "Forms",
  mkB "Pair",
  mkB "Wrong",
  mkB "TryRule",
  mkB "TurnRule",
  kitB "TryRule" "WeightRule" true,
  kitB "TurnRule" "WeightRule" true,
  kitB "TryRule" "TurnRule" false,
  kitB "TurnRule" "TurnRule" true,
  kitB "Case" "Case" true,
  callB "Test" "__call__",
  callB "Case" "__eq__",
  tupAt (fun K => He.ga K "DEEDS") (fun _ => [.str "put", .str "take"]),
  tupAt (fun K => He.ga K "INNER") (fun _ => [.str "inner", .str "none"]),
  tupAt (fun K => He.ga K "ONCE") (fun K => [.ref (tAt K (He.ga K "ONCE") 0), .ref (tAt K (He.ga K "ONCE") 1), .ref (tAt K (He.ga K "ONCE") 2), .ref (tAt K (He.ga K "ONCE") 3)]),
  tupAt (fun K => tAt K (He.ga K "ONCE") 0) (fun _ => [.str "light", .str "first"]),
  tupAt (fun K => tAt K (He.ga K "ONCE") 1) (fun _ => [.str "light", .str "second"]),
  tupAt (fun K => tAt K (He.ga K "ONCE") 2) (fun _ => [.str "top", .str "first"]),
  tupAt (fun K => tAt K (He.ga K "ONCE") 3) (fun _ => [.str "top", .str "second"]),
  tupAt (fun K => He.ga K "TWICE") (fun K => [.ref (tAt K (He.ga K "TWICE") 0), .ref (tAt K (He.ga K "TWICE") 1), .ref (tAt K (He.ga K "TWICE") 2), .ref (tAt K (He.ga K "TWICE") 3), .ref (tAt K (He.ga K "TWICE") 4), .ref (tAt K (He.ga K "TWICE") 5), .ref (tAt K (He.ga K "TWICE") 6)]),
  tupAt (fun K => tAt K (He.ga K "TWICE") 0) (fun _ => [.str "inner", .str "none"]),
  tupAt (fun K => tAt K (He.ga K "TWICE") 1) (fun _ => [.str "light", .str "first"]),
  tupAt (fun K => tAt K (He.ga K "TWICE") 2) (fun _ => [.str "light", .str "second"]),
  tupAt (fun K => tAt K (He.ga K "TWICE") 3) (fun _ => [.str "far", .str "first"]),
  tupAt (fun K => tAt K (He.ga K "TWICE") 4) (fun _ => [.str "far", .str "second"]),
  tupAt (fun K => tAt K (He.ga K "TWICE") 5) (fun _ => [.str "top", .str "first"]),
  tupAt (fun K => tAt K (He.ga K "TWICE") 6) (fun _ => [.str "top", .str "second"]),
  statB "TryRule",
  statB "TurnRule"]
def fx5 : List (Fr → Bool) := [
  supB "TryRule" PX.main.file,
  supB "TurnRule" PX.main.file]
def fxAll : List (Fr → Bool) := fx0 ++ (fx1 ++ (fx2 ++ (fx3 ++ (fx4 ++ (fx5)))))
def fn0 : List DX := [
  ⟨fun K => (He.ga K "is_integer"), "is_integer", "is_integer", defArgs s_is_integer, defBody s_is_integer, defScope s_is_integer, [], [], []⟩,
  ⟨fun K => (He.ga K "is_within"), "is_within", "is_within", defArgs s_is_within, defBody s_is_within, defScope s_is_within, [], [], []⟩,
  ⟨fun K => (He.ga K "is_times"), "is_times", "is_times", defArgs s_is_times, defBody s_is_times, defScope s_is_times, [], [], []⟩,
  ⟨fun K => (He.ga K "need_plus"), "need_plus", "need_plus", defArgs s_need_plus, defBody s_need_plus, defScope s_need_plus, [], [], []⟩,
  ⟨fun K => (He.ga K "need_weight"), "need_weight", "need_weight", defArgs s_need_weight, defBody s_need_weight, defScope s_need_weight, [], [], []⟩,
  ⟨fun K => (He.ga K "need_weight_rule"), "need_weight_rule", "need_weight_rule", defArgs s_need_weight_rule, defBody s_need_weight_rule, defScope s_need_weight_rule, [], [], []⟩,
  ⟨fun K => (He.ga K "need_deed"), "need_deed", "need_deed", defArgs s_need_deed, defBody s_need_deed, defScope s_need_deed, [], [], []⟩,
  ⟨fun K => (He.ga K "all_cases"), "all_cases", "all_cases", defArgs s_all_cases, defBody s_all_cases, defScope s_all_cases, [], [], []⟩,
  ⟨fun K => (He.ga K "need_case"), "need_case", "need_case", defArgs s_need_case, defBody s_need_case, defScope s_need_case, [], [], []⟩,
  ⟨fun K => (He.ga K "added"), "added", "added", defArgs s_added, defBody s_added, defScope s_added, [], [], []⟩,
  ⟨fun K => (He.ga K "scaled"), "scaled", "scaled", defArgs s_scaled, defBody s_scaled, defScope s_scaled, [], [], []⟩,
  ⟨fun K => (He.ga K "has_three"), "has_three", "has_three", defArgs s_has_three, defBody s_has_three, defScope s_has_three, [], [], []⟩,
  ⟨fun K => (He.ga K "fair_tests"), "fair_tests", "fair_tests", defArgs s_fair_tests, defBody s_fair_tests, defScope s_fair_tests, [], [], []⟩,
  ⟨fun K => (He.ga K "unfair_test"), "unfair_test", "unfair_test", defArgs s_unfair_test, defBody s_unfair_test, defScope s_unfair_test, [], [], []⟩,
  ⟨fun K => (He.ga K "turn_tests"), "turn_tests", "turn_tests", defArgs s_turn_tests, defBody s_turn_tests, defScope s_turn_tests, [], [], []⟩,
  ⟨fun K => (He.ga K "break_test"), "break_test", "break_test", defArgs s_break_test, defBody s_break_test, defScope s_break_test, [], [], []⟩,
  ⟨fun K => (He.ga K "tests_in"), "tests_in", "tests_in", defArgs s_tests_in, defBody s_tests_in, defScope s_tests_in, [], [], []⟩,
  ⟨fun K => (He.ga K "numbers_break"), "numbers_break", "numbers_break", defArgs s_numbers_break, defBody s_numbers_break, defScope s_numbers_break, [], [], []⟩,
  ⟨fun K => (He.ga K "over"), "over", "over", defArgs s_over, defBody s_over, defScope s_over, [], [], []⟩,
  ⟨fun K => (He.ga K "heavy_weights"), "heavy_weights", "heavy_weights", defArgs s_heavy_weights, defBody s_heavy_weights, defScope s_heavy_weights, [], [], []⟩,
  ⟨fun K => (He.ga K "wrong_at"), "wrong_at", "wrong_at", defArgs s_wrong_at, defBody s_wrong_at, defScope s_wrong_at, [], [], []⟩,
  ⟨fun K => (He.ga K "breaks"), "breaks", "breaks", defArgs s_breaks, defBody s_breaks, defScope s_breaks, [], [], []⟩,
  ⟨fun K => (He.ga K "_law_pen"), "_law_pen", "_law_pen", defArgs s__law_pen, defBody s__law_pen, defScope s__law_pen, [], [], []⟩,
  ⟨fun K => (He.ga K "_law_draw"), "_law_draw", "_law_draw", defArgs s__law_draw, defBody s__law_draw, defScope s__law_draw, [], [], []⟩,
  ⟨fun K => (He.ga K "_law_pick"), "_law_pick", "_law_pick", defArgs s__law_pick, defBody s__law_pick, defScope s__law_pick, [], [], []⟩,
  ⟨fun K => (He.ga K "_law_numbers"), "_law_numbers", "_law_numbers", defArgs s__law_numbers, defBody s__law_numbers, defScope s__law_numbers, [], [], []⟩,
  ⟨fun K => (He.ga K "_law_rule"), "_law_rule", "_law_rule", defArgs s__law_rule, defBody s__law_rule, defScope s__law_rule, [], [], []⟩,
  ⟨fun K => (He.ga K "_law_carried"), "_law_carried", "_law_carried", defArgs s__law_carried, defBody s__law_carried, defScope s__law_carried, [], [], []⟩,
  ⟨fun K => (He.ga K "_law_pair_right"), "_law_pair_right", "_law_pair_right", defArgs s__law_pair_right, defBody s__law_pair_right, defScope s__law_pair_right, [], [], []⟩,
  ⟨fun K => (He.ga K "law"), "law", "law", defArgs s_law, defBody s_law, defScope s_law, [], [], []⟩]
def fn1 : List DX := [
  ⟨fun K => (He.ma K (He.ga K "WeightRule") "__init__"), "__init__", "WeightRule.__init__", defArgs s_WeightRule_init, defBody s_WeightRule_init, defScope s_WeightRule_init, [], [], []⟩,
  ⟨fun K => (nnF K), "need_numbers", "WeightRule.need_numbers", defArgs s_WeightRule_need_numbers, defBody s_WeightRule_need_numbers, defScope s_WeightRule_need_numbers, [], [], []⟩,
  ⟨fun K => (He.ma K (He.ga K "WeightRule") "beside"), "beside", "WeightRule.beside", defArgs s_WeightRule_beside, defBody s_WeightRule_beside, defScope s_WeightRule_beside, [], [], []⟩,
  ⟨fun K => (He.ma K (He.ga K "WeightRule") "greatest"), "greatest", "WeightRule.greatest", defArgs s_WeightRule_greatest, defBody s_WeightRule_greatest, defScope s_WeightRule_greatest, [], [], []⟩,
  ⟨fun K => (He.ma K (He.ga K "Test") "__init__"), "__init__", "Test.__init__", defArgs s_Test_init, defBody s_Test_init, defScope s_Test_init, [], [], []⟩,
  ⟨fun K => (He.ma K (He.ga K "Test") "amount"), "amount", "Test.amount", defArgs s_Test_amount, defBody s_Test_amount, defScope s_Test_amount, [], [], []⟩,
  ⟨fun K => (He.ma K (He.ga K "Test") "__call__"), "__call__", "Test.__call__", defArgs s_Test_call, defBody s_Test_call, defScope s_Test_call, [], [], []⟩,
  ⟨fun K => (He.ma K (He.ga K "Case") "__init__"), "__init__", "Case.__init__", defArgs s_Case_init, defBody s_Case_init, defScope s_Case_init, [], [], []⟩,
  ⟨fun K => (He.ma K (He.ga K "Case") "__eq__"), "__eq__", "Case.__eq__", defArgs s_Case_eq, defBody s_Case_eq, defScope s_Case_eq, [], [], []⟩,
  ⟨fun K => (He.ma K (He.ga K "Forms") "__init__"), "__init__", "Forms.__init__", defArgs s_Forms_init, defBody s_Forms_init, defScope s_Forms_init, [], [], []⟩,
  ⟨fun K => (He.ma K (He.ga K "Forms") "heavy_form"), "heavy_form", "Forms.heavy_form", defArgs s_Forms_heavy_form, defBody s_Forms_heavy_form, defScope s_Forms_heavy_form, [], [], []⟩,
  ⟨fun K => (He.ma K (He.ga K "Forms") "sides"), "sides", "Forms.sides", defArgs s_Forms_sides, defBody s_Forms_sides, defScope s_Forms_sides, [], [], []⟩,
  ⟨fun K => (He.ma K (He.ga K "Pair") "__init__"), "__init__", "Pair.__init__", defArgs s_Pair_init, defBody s_Pair_init, defScope s_Pair_init, [], [], []⟩,
  ⟨fun K => (He.ma K (He.ga K "Pair") "inner_stretch"), "inner_stretch", "Pair.inner_stretch", defArgs s_Pair_inner_stretch, defBody s_Pair_inner_stretch, defScope s_Pair_inner_stretch, [], [], []⟩,
  ⟨fun K => (He.ma K (He.ga K "Pair") "turned_stretch"), "turned_stretch", "Pair.turned_stretch", defArgs s_Pair_turned_stretch, defBody s_Pair_turned_stretch, defScope s_Pair_turned_stretch, [], [], []⟩,
  ⟨fun K => (He.ma K (He.ga K "Pair") "once_stretch"), "once_stretch", "Pair.once_stretch", defArgs s_Pair_once_stretch, defBody s_Pair_once_stretch, defScope s_Pair_once_stretch, [], [], []⟩,
  ⟨fun K => (He.ma K (He.ga K "Pair") "near_stretch"), "near_stretch", "Pair.near_stretch", defArgs s_Pair_near_stretch, defBody s_Pair_near_stretch, defScope s_Pair_near_stretch, [], [], []⟩,
  ⟨fun K => (He.ma K (He.ga K "Pair") "near_for"), "near_for", "Pair.near_for", defArgs s_Pair_near_for, defBody s_Pair_near_for, defScope s_Pair_near_for, [], [], []⟩,
  ⟨fun K => (He.ma K (He.ga K "Pair") "stretch_of"), "stretch_of", "Pair.stretch_of", defArgs s_Pair_stretch_of, defBody s_Pair_stretch_of, defScope s_Pair_stretch_of, [], [], []⟩,
  ⟨fun K => (He.ma K (He.ga K "Pair") "can_break"), "can_break", "Pair.can_break", defArgs s_Pair_can_break, defBody s_Pair_can_break, defScope s_Pair_can_break, [], [], []⟩,
  ⟨fun K => (He.ma K (He.ga K "Pair") "numbers_for"), "numbers_for", "Pair.numbers_for", defArgs s_Pair_numbers_for, defBody s_Pair_numbers_for, defScope s_Pair_numbers_for, [], [], []⟩,
  ⟨fun K => (He.ma K (He.ga K "Wrong") "__init__"), "__init__", "Wrong.__init__", defArgs s_Wrong_init, defBody s_Wrong_init, defScope s_Wrong_init, [], [], []⟩,
  ⟨fun K => iA "TryRule" K, "__init__", "TryRule.__init__", defArgs s_TryRule_init, defBody s_TryRule_init, defScope s_TryRule_init, ["__class__"], [.int 0], []⟩,
  ⟨fun K => iA "TurnRule" K, "__init__", "TurnRule.__init__", defArgs s_TurnRule_init, defBody s_TurnRule_init, defScope s_TurnRule_init, ["__class__"], [.int 0], [("turn_plus", .int 0)]⟩]
def fnAll : List DX := fn0 ++ (fn1)
end Hd
end M
set_option maxHeartbeats 0
namespace M
namespace Hd
open PySem PySem.Spec PyProof.Rows L2 Evl
abbrev R : PySem.W.OpenRow := PySem.W.OpenLaw.row PySem.Challenge.rw_evenrules_k64_whole_try_rules_and_turn_r
abbrev hk : PySem.W.Hook := hookM 5 fxAll fnAll
def ob (s : PySem.W.SharedT) : AlM := obsMG 5 fxAll fnAll (HandSHeadRun.getT s)
theorem ob_eq (s : PySem.W.SharedT) : ob s = hk.obs s.abs := obsMG_eq (HandSHeadRun.getT_eq s)
def loose : List PySem.Str := (["_wall", "FairError", "BadRule", "NoHalves", "BadNumber", "BadTest", "BadOther", "BadDeeds", "BadText", "is_integer", "is_within", "MOST_PLUS", "MOST_TURN", "MOST_WEIGHT", "Rule", "is_times"] : List PySem.Str) ++ (["need_plus", "need_weight", "WeightRule", "TurnRule", "TryRule", "number_in", "pair_in", "numbers_in", "read_rule", "MOST_PARTS", "DIGITS", "REACHES", "is_written", "need_times", "Test", "DEEDS"] : List PySem.Str) ++ (["ONCE", "INNER", "TWICE", "Case", "need_weight_rule", "need_deed", "all_cases", "need_case", "added", "scaled", "has_three", "Forms", "fair_tests", "unfair_test", "turn_tests", "break_test"] : List PySem.Str) ++ (["tests_in", "numbers_break", "Verdict", "over", "Pair", "heavy_weights", "MOST_ASKED", "Wrong", "wrong_at", "breaks", "_law_pen", "_law_draw", "_law_pick", "_law_numbers", "_law_rule", "_law_carried"] : List PySem.Str) ++ (["_law_pair_right"] : List PySem.Str)
theorem run (w : World) : HandSHeadRun.RunEq R (PySem.W.view R.prog [74]) hk ob 8000 loose w := by
  intro os
  kernel_rfl
open PySem PySem.W PySem.Calls PyProof.Rows in
/-- the law from its walk -/
theorem head (call : WalkO (view (OpenLaw.row PySem.Challenge.rw_evenrules_k64_whole_try_rules_and_turn_r).prog [74]) loose (XL (view (OpenLaw.row PySem.Challenge.rw_evenrules_k64_whole_try_rules_and_turn_r).prog [74]) []) hk.says (OpenLaw.row PySem.Challenge.rw_evenrules_k64_whole_try_rules_and_turn_r).toRowW (HandSHeadRun.topDef (OpenLaw.row PySem.Challenge.rw_evenrules_k64_whole_try_rules_and_turn_r).prog 74) [] fun f vs => PySem.call f vs) : PySem.Challenge.rw_evenrules_k64_whole_try_rules_and_turn_r.Holds := by
  w_on; o_law
  refine HandSHeadRun.head_any (r := OpenLaw.row PySem.Challenge.rw_evenrules_k64_whole_try_rules_and_turn_r) (q := view (OpenLaw.row PySem.Challenge.rw_evenrules_k64_whole_try_rules_and_turn_r).prog [74]) (H := hk) (ob := ob) (M := 8000) (loose := loose) (d := HandSHeadRun.topDef (OpenLaw.row PySem.Challenge.rw_evenrules_k64_whole_try_rules_and_turn_r).prog 74) (kwd := []) ob_eq
    (by kernel_rfl) (fun s => by kernel_rfl) run (by kernel_rfl) (by kernel_rfl) (by kernel_rfl) (by rfl) (by first | assumption | decide +kernel) (by decide +kernel) ⟨rfl, rfl, rfl, rfl, rfl, by decide +kernel⟩ ?hw call
  case hw => w_witness2
end Hd
end M

set_option maxHeartbeats 8000000
/-! zip of two tuples whose pairs are kept (the target is a name); zip(*ts) -/
namespace MZ
open PySem
open PySem.W (kdx_alive)
/-- the zip's record: f0 tells whether its own pair is out, f whether it knows that -/
abbrev ZAt (h : Heap) (z TI TO : Addr) (f0 : Value) (f : Bool) : Prop :=
  h.get? z = some { cls := .type "zip", dict := none, data := .fields #[f0, .bool f, .bool false, .ref TI, .ref TO], slots := #[] }
def Out (f0 : Value) : Prop := f0 = .none ∨ ∃ T : Addr, f0 = rawInt T
section
variable {prog : Program} {w : World} {A : Around} {E : Value → Shared → Prop} {s : Shared} {z TI TO i1 i2 l1 l2 : Addr} {f0 : Value} {f : Bool} {k1 k2 : Nat} {xs ys : Array Value} {x y a b : Value}
theorem own_ask {Q : Bool → Shared → Prop} (hz : ZAt s.heap z TI TO f0 f) (hf : Out f0) (yes : Q true s)
    (no : ∀ h', ZAt h' z TI TO f0 true → Heap.SameBut z s.heap h' → Q false { s with heap := h' }) : wpAny (model prog w) A (Builtin.SmallTypes.ownedTupleIsFree (.ref z)) Q E s := by
  unfold Builtin.SmallTypes.ownedTupleIsFree
  rcases hf with rfl | ⟨T, rfl⟩
  · exact wpAny_bind (wpAny_field hz rfl (x := .none) rfl (wpAny_pure yes))
  · refine wpAny_bind (wpAny_field hz rfl (x := rawInt T) rfl ?_)
    show wpAny _ _ (loadIfAlive ((T : Int).toNat) >>= _) _ _ _
    rw [Int.toNat_natCast]
    cases hT : s.heap.get? T with
    | none =>
      refine wpAny_bind (Q := _) ?_
      have step : ∀ {R : Option Obj → Shared → Prop}, R none s → wpAny (model prog w) A (loadIfAlive T) R E s := fun {R} h => by
        have h' : R (s.heap.get? T) s := by rw [hT]; exact h
        exact fun _ _ _ => h'
      exact step (wpAny_pure yes)
    | some oT =>
      refine wpAny_bind (kdx_alive hT ?_)
      simp only [Option.isNone_some, Bool.false_eq_true, if_false]
      refine wpAny_bind (wpAny_field hz rfl (x := .bool f) rfl ?_)
      cases f with
      | true =>
        rw [if_neg (show ¬ ((Value.bool true != Value.bool true) = true) from Bool.false_ne_true)]
        exact wpAny_pure (no s.heap hz (Heap.SameBut.refl _ _))
      | false =>
        rw [if_pos (show (Value.bool false != Value.bool true) = true from rfl)]
        exact wpAny_bind (wpAny_setField_rec hz (by simp) fun h₁ hz₁ hs₁ => wpAny_pure (no h₁ hz₁ hs₁))
/-- one more pair -/
theorem next_item {Q : Value → Shared → Prop} (D : ZipApart z TI TO i1 i2 l1 l2) (hz : ZAt s.heap z TI TO f0 f) (hf : Out f0) (hTI : IsPair s.heap TI (.ref i1) (.ref i2)) (hTO : IsPair s.heap TO a b)
    (h1 : s.heap.IsTupleIter i1 l1 k1) (h2 : s.heap.IsTupleIter i2 l2 k2) (hl1 : s.heap.IsTuple l1 xs) (hl2 : s.heap.IsTuple l2 ys) (hx : xs[k1]? = some x) (hy : ys[k2]? = some y)
    (hQ : ∀ h' f0' f', ZAt h' z TI TO f0' f' → Out f0' → (∃ a' b', IsPair h' TO a' b') → h'.IsTupleIter i1 l1 (k1 + 1) → h'.IsTupleIter i2 l2 (k2 + 1) → IsPair h' s.heap.objs.size x y → h'.objs.size = s.heap.objs.size + 1 →
      (∀ c o, c ≠ z → c ≠ TO → c ≠ i1 → c ≠ i2 → s.heap.get? c = some o → h'.get? c = some o) → Q (.ref s.heap.objs.size) { s with heap := h' }) :
    wpAny (model prog w) A (Builtin.«zip.__next__» ⟨[.ref z], []⟩) (fun fin s' => ∃ v, fin = .done (.ret v) ∧ Q v s') E s := by
  show wpAny _ _ (field (.ref z) 2 >>= _) _ _ _
  refine wpAny_bind (wpAny_field hz rfl (x := .bool false) rfl ?_)
  show wpAny _ _ (field (.ref z) 3 >>= _) _ _ _
  refine wpAny_bind (wpAny_field hz rfl (x := .ref TI) rfl ?_)
  refine wpAny_bind (wpAny_seqItems hTI rfl ?_)
  show wpAny _ _ (Builtin.SmallTypes.ownedTupleIsFree (.ref z) >>= _) _ _ _
  refine wpAny_bind (own_ask hz hf ?_ fun h₁ hz₁ hs₁ => ?_)
  · -- the own pair is free: it is filled anew
    simp only [if_true]
    refine wpAny_bind (wpAny_rule ?_)
    refine wpAny_bind (wpAny_field hz rfl (x := .ref TO) rfl ?_)
    refine wpAny_bind (wpAny_setField_rec hz (by simp) fun h₁ hz₁ hs₁ => ?_)
    replace hz₁ : ZAt h₁ z TI TO .ellipsis f := hz₁
    refine wpAny_bind ?_
    simp only [List.zipIdx_cons, List.zipIdx_nil, List.forIn_cons, List.forIn_nil]
    refine wpAny_bind (wpAny_bind (wpAny_onRaise ?_))
    show wpAny _ _ (Builtin.SmallTypes.nextOf (.ref i1) >>= _) _ _ _
    refine wpAny_bind (RZ.nextOf_tuple_item (s := { s with heap := h₁ }) (h1.extBut hs₁.extBut D.i1z) (hl1.extBut hs₁.extBut D.l1z) hx fun h₂ g1 hs₂ => wpAny_pure ?_)
    have tO : IsPair h₂ TO a b := hs₂.extBut _ _ D.TOi1 (hs₁.extBut _ _ D.TOz hTO)
    refine wpAny_bind (wpAny_seqItems tO rfl ?_)
    refine wpAny_bind (wpAny_updateSeq_pair tO fun h₃ u3 hs₃ => ?_)
    replace u3 : IsPair h₃ TO x b := u3
    refine wpAny_bind (wpAny_letGo (wpAny_pure ?_))
    refine wpAny_bind (wpAny_bind (wpAny_onRaise ?_))
    show wpAny _ _ (Builtin.SmallTypes.nextOf (.ref i2) >>= _) _ _ _
    have it2 := ((h2.extBut hs₁.extBut D.i2z).extBut hs₂.extBut D.i12.symm).extBut hs₃.extBut D.TOi2.symm
    have tu2 := ((hl2.extBut hs₁.extBut D.l2z).extBut hs₂.extBut D.l2i1).extBut hs₃.extBut D.l2TO
    refine wpAny_bind (RZ.nextOf_tuple_item (s := { s with heap := h₃ }) it2 tu2 hy fun h₄ g2 hs₄ => wpAny_pure ?_)
    have tO4 : IsPair h₄ TO x b := hs₄.extBut _ _ D.TOi2 u3
    refine wpAny_bind (wpAny_seqItems tO4 rfl ?_)
    refine wpAny_bind (wpAny_updateSeq_pair tO4 fun h₅ u5 hs₅ => ?_)
    replace u5 : IsPair h₅ TO x y := u5
    refine wpAny_bind (wpAny_letGo (wpAny_pure (wpAny_pure ?_)))
    refine wpAny_bind (wpAny_seqItems u5 rfl ?_)
    refine wpAny_bind (wpAny_newTuple ?_)
    have sz : h₅.objs.size = s.heap.objs.size := by rw [hs₅.1, hs₄.1, hs₃.1, hs₂.1, hs₁.1]
    have zz : ZAt h₅ z TI TO .ellipsis f := hs₅.extBut _ _ D.TOz.symm (hs₄.extBut _ _ D.i2z.symm (hs₃.extBut _ _ D.TOz.symm (hs₂.extBut _ _ D.i1z.symm hz₁)))
    have kk : ∀ c o, c ≠ z → c ≠ TO → c ≠ i1 → c ≠ i2 → s.heap.get? c = some o → h₅.get? c = some o := fun c o c1 c2 c3 c4 e =>
      hs₅.extBut _ _ c2 (hs₄.extBut _ _ c4 (hs₃.extBut _ _ c2 (hs₂.extBut _ _ c3 (hs₁.extBut _ _ c1 e))))
    have j1 : h₅.IsTupleIter i1 l1 (k1 + 1) := ((g1.extBut hs₃.extBut D.TOi1.symm).extBut hs₄.extBut D.i12).extBut hs₅.extBut D.TOi1.symm
    have j2 : h₅.IsTupleIter i2 l2 (k2 + 1) := g2.extBut hs₅.extBut D.TOi2.symm
    have zlt : z < h₅.objs.size := Heap.lt_size zz
    show wpAny _ _ (Builtin.SmallTypes.ownedTupleHandOut (.ref z) (.ref h₅.objs.size) >>= _) _ _ _
    refine wpAny_bind ?_
    unfold Builtin.SmallTypes.ownedTupleHandOut
    have z6 : ZAt (h₅.push { cls := .type "tuple", data := .seq #[x, y] }) z TI TO .ellipsis f := Heap.get?_push_of_some _ zz
    refine wpAny_bind (wpAny_setField_rec z6 (by simp) fun h₇ z7 hs₇ => ?_)
    replace z7 : ZAt h₇ z TI TO (rawInt h₅.objs.size) f := z7
    refine wpAny_setField_rec z7 (by simp) fun h₈ z8 hs₈ => ?_
    replace z8 : ZAt h₈ z TI TO (rawInt h₅.objs.size) false := z8
    have up : ∀ c o, c ≠ z → h₅.get? c = some o → h₈.get? c = some o := fun c o c1 e => hs₈.extBut _ _ c1 (hs₇.extBut _ _ c1 (Heap.get?_push_of_some _ e))
    have t8 : IsPair h₈ h₅.objs.size x y := hs₈.extBut _ _ (Nat.ne_of_gt zlt) (hs₇.extBut _ _ (Nat.ne_of_gt zlt) (Heap.get?_push_size _ rfl))
    have n8 : h₈.objs.size = h₅.objs.size + 1 := by rw [hs₈.1, hs₇.1, Heap.size_push]
    rw [sz] at t8 n8
    refine wpAny_pure ⟨_, rfl, ?_⟩
    show Q (.ref h₅.objs.size) _
    rw [sz] at z8 ⊢
    exact hQ h₈ _ _ z8 (.inr ⟨_, rfl⟩) ⟨_, _, up _ _ D.TOz u5⟩ (j1.at fun o e => up _ o D.i1z e) (j2.at fun o e => up _ o D.i2z e) t8 n8 fun c o c1 c2 c3 c4 e => up c o c1 (kk c o c1 c2 c3 c4 e)
  · -- it is out: a new pair
    simp only [Bool.false_eq_true, if_false]
    refine wpAny_bind ?_
    rw [← Array.forIn_toList]
    simp only [List.forIn_cons, List.forIn_nil]
    refine wpAny_bind (wpAny_bind (wpAny_holding ?_))
    show wpAny _ _ (Builtin.SmallTypes.nextOf (.ref i1) >>= _) _ _ _
    refine wpAny_bind (RZ.nextOf_tuple_item (s := { s with heap := h₁ }) (h1.extBut hs₁.extBut D.i1z) (hl1.extBut hs₁.extBut D.l1z) hx fun h₂ g1 hs₂ => wpAny_pure ?_)
    refine wpAny_pure ?_
    refine wpAny_bind (wpAny_bind (wpAny_holding ?_))
    show wpAny _ _ (Builtin.SmallTypes.nextOf (.ref i2) >>= _) _ _ _
    have it2 := (h2.extBut hs₁.extBut D.i2z).extBut hs₂.extBut D.i12.symm
    have tu2 := (hl2.extBut hs₁.extBut D.l2z).extBut hs₂.extBut D.l2i1
    refine wpAny_bind (RZ.nextOf_tuple_item (s := { s with heap := h₂ }) it2 tu2 hy fun h₃ g2 hs₃ => wpAny_pure ?_)
    refine wpAny_pure (wpAny_pure ?_)
    show wpAny _ _ (newTuple [x, y] >>= _) _ _ _
    refine wpAny_bind (wpAny_newTuple ?_)
    have sz : h₃.objs.size = s.heap.objs.size := by rw [hs₃.1, hs₂.1, hs₁.1]
    have zz : ZAt h₃ z TI TO f0 true := hs₃.extBut _ _ D.i2z.symm (hs₂.extBut _ _ D.i1z.symm hz₁)
    have kk : ∀ c o, c ≠ z → c ≠ i1 → c ≠ i2 → s.heap.get? c = some o → h₃.get? c = some o := fun c o c1 c2 c3 e => hs₃.extBut _ _ c3 (hs₂.extBut _ _ c2 (hs₁.extBut _ _ c1 e))
    have j1 : h₃.IsTupleIter i1 l1 (k1 + 1) := g1.extBut hs₃.extBut D.i12
    refine wpAny_pure ⟨_, rfl, ?_⟩
    show Q (.ref h₃.objs.size) _
    have hp : IsPair (h₃.push { cls := .type "tuple", data := .seq #[x, y] }) h₃.objs.size x y := Heap.get?_push_size _ rfl
    have n4 : (h₃.push { cls := .type "tuple", data := .seq #[x, y] }).objs.size = h₃.objs.size + 1 := Heap.size_push ..
    rw [sz] at hp n4 ⊢
    exact hQ _ _ _ (Heap.get?_push_of_some _ zz) hf ⟨a, b, Heap.get?_push_of_some _ (kk _ _ D.TOz D.TOi1 D.TOi2 hTO)⟩ (j1.at fun o e => Heap.get?_push_of_some _ e) (g2.at fun o e => Heap.get?_push_of_some _ e) hp n4 fun c o c1 _ c3 c4 e => Heap.get?_push_of_some _ (kk c o c1 c3 c4 e)
/-- no pair more -/
theorem next_end {Q : Fin → Shared → Prop} (hh : A.handled = none) (D : ZipApart z TI TO i1 i2 l1 l2) (hz : ZAt s.heap z TI TO f0 f) (hf : Out f0) (hTI : IsPair s.heap TI (.ref i1) (.ref i2)) (hTO : IsPair s.heap TO a b)
    (h1 : s.heap.IsTupleIter i1 l1 k1) (h2 : s.heap.IsTupleIter i2 l2 k2) (hl1 : s.heap.IsTuple l1 xs) (hl2 : s.heap.IsTuple l2 ys) (hend : xs[k1]? = none)
    (hE : ∀ h' e, (∀ c o, c ≠ z → c ≠ TO → c ≠ i1 → c ≠ i2 → s.heap.get? c = some o → h'.get? c = some o) → (∃ o, h'.get? e = some o ∧ o.cls = .type "StopIteration") → E (.ref e) { s with heap := h' }) :
    wpAny (model prog w) A (Builtin.«zip.__next__» ⟨[.ref z], []⟩) Q E s := by
  show wpAny _ _ (field (.ref z) 2 >>= _) _ _ _
  refine wpAny_bind (wpAny_field hz rfl (x := .bool false) rfl ?_)
  show wpAny _ _ (field (.ref z) 3 >>= _) _ _ _
  refine wpAny_bind (wpAny_field hz rfl (x := .ref TI) rfl ?_)
  refine wpAny_bind (wpAny_seqItems hTI rfl ?_)
  show wpAny _ _ (Builtin.SmallTypes.ownedTupleIsFree (.ref z) >>= _) _ _ _
  refine wpAny_bind (own_ask hz hf ?_ fun h₁ hz₁ hs₁ => ?_)
  · simp only [if_true]
    refine wpAny_bind (wpAny_rule ?_)
    refine wpAny_bind (wpAny_field hz rfl (x := .ref TO) rfl ?_)
    refine wpAny_bind (wpAny_setField_rec hz (by simp) fun h₁ hz₁ hs₁ => ?_)
    replace hz₁ : ZAt h₁ z TI TO .ellipsis f := hz₁
    refine wpAny_bind ?_
    simp only [List.zipIdx_cons, List.zipIdx_nil, List.forIn_cons, List.forIn_nil]
    refine wpAny_bind (wpAny_bind (wpAny_onRaise ?_))
    show wpAny _ _ (Builtin.SmallTypes.nextOf (.ref i1) >>= _) _ _ _
    refine wpAny_bind (RZ.nextOf_tuple_end (s := { s with heap := h₁ }) hh (h1.extBut hs₁.extBut D.i1z) (hl1.extBut hs₁.extBut D.l1z) hend fun h₂ e hs₂ he => ?_)
    have z2 : ZAt h₂ z TI TO .ellipsis f := hs₂ _ _ D.i1z.symm hz₁
    refine wpAny_setField_rec z2 (by simp) fun h₃ hz₃ hs₃ => ?_
    obtain ⟨o, ho, hc⟩ := he
    have nez : e ≠ z := fun q => by
      rw [q, z2] at ho
      rw [← Option.some.inj ho] at hc
      exact absurd hc (by simp)
    exact hE h₃ e (fun c o c1 _ c3 _ x => hs₃.extBut _ _ c1 (hs₂ _ _ c3 (hs₁.extBut _ _ c1 x))) ⟨o, hs₃.extBut _ _ nez ho, hc⟩
  · simp only [Bool.false_eq_true, if_false]
    refine wpAny_bind ?_
    rw [← Array.forIn_toList]
    simp only [List.forIn_cons, List.forIn_nil]
    refine wpAny_bind (wpAny_bind (wpAny_holding ?_))
    show wpAny _ _ (Builtin.SmallTypes.nextOf (.ref i1) >>= _) _ _ _
    refine wpAny_bind (RZ.nextOf_tuple_end (s := { s with heap := h₁ }) hh (h1.extBut hs₁.extBut D.i1z) (hl1.extBut hs₁.extBut D.l1z) hend fun h₂ e hs₂ he => ?_)
    exact hE h₂ e (fun c o c1 _ c3 _ x => hs₂ _ _ c3 (hs₁.extBut _ _ c1 x)) he
theorem py_item {Q : Option Value → Shared → Prop} (D : ZipApart z TI TO i1 i2 l1 l2) (hz : ZAt s.heap z TI TO f0 f) (hf : Out f0) (hTI : IsPair s.heap TI (.ref i1) (.ref i2)) (hTO : IsPair s.heap TO a b)
    (h1 : s.heap.IsTupleIter i1 l1 k1) (h2 : s.heap.IsTupleIter i2 l2 k2) (hl1 : s.heap.IsTuple l1 xs) (hl2 : s.heap.IsTuple l2 ys) (hx : xs[k1]? = some x) (hy : ys[k2]? = some y)
    (hQ : ∀ h' f0' f', ZAt h' z TI TO f0' f' → Out f0' → (∃ a' b', IsPair h' TO a' b') → h'.IsTupleIter i1 l1 (k1 + 1) → h'.IsTupleIter i2 l2 (k2 + 1) → IsPair h' s.heap.objs.size x y → h'.objs.size = s.heap.objs.size + 1 →
      (∀ c o, c ≠ z → c ≠ TO → c ≠ i1 → c ≠ i2 → s.heap.get? c = some o → h'.get? c = some o) → Q (some (.ref s.heap.objs.size)) { s with heap := h' }) : wpAny (model prog w) A (pyNext (.ref z)) Q E s := by
  have hT : s.TypeIs (.ref z) "zip" := ⟨_, hz, rfl⟩
  unfold pyNext
  exact wpAny_bind (wpAny_attempt (wpAny_callSpecial?_slot (name := Str.ofString "__next__") hT F.slot_zip_next
    (wpAny_call_entry F.slot_zip_next hT F.entry_zip_next (next_item D hz hf hTI hTO h1 h2 hl1 hl2 hx hy fun h' q1 q2 a1 a2 a3 a4 a5 a6 a7 a8 => wpAny_pure (hQ h' q1 q2 a1 a2 a3 a4 a5 a6 a7 a8)) (F.args_zip_next_1 _))))
theorem py_end {Q : Option Value → Shared → Prop} (hh : A.handled = none) (D : ZipApart z TI TO i1 i2 l1 l2) (hz : ZAt s.heap z TI TO f0 f) (hf : Out f0) (hTI : IsPair s.heap TI (.ref i1) (.ref i2)) (hTO : IsPair s.heap TO a b)
    (h1 : s.heap.IsTupleIter i1 l1 k1) (h2 : s.heap.IsTupleIter i2 l2 k2) (hl1 : s.heap.IsTuple l1 xs) (hl2 : s.heap.IsTuple l2 ys) (hend : xs[k1]? = none)
    (hQ : ∀ h', (∀ c o, c ≠ z → c ≠ TO → c ≠ i1 → c ≠ i2 → s.heap.get? c = some o → h'.get? c = some o) → Q none { s with heap := h' }) : wpAny (model prog w) A (pyNext (.ref z)) Q E s := by
  have hT : s.TypeIs (.ref z) "zip" := ⟨_, hz, rfl⟩
  unfold pyNext
  refine wpAny_bind (wpAny_attempt (wpAny_callSpecial?_slot (name := Str.ofString "__next__") hT F.slot_zip_next
    (wpAny_call_entry F.slot_zip_next hT F.entry_zip_next (next_end hh D hz hf hTI hTO h1 h2 hl1 hl2 hend fun h' e hk he => ?_) (F.args_zip_next_1 _))))
  obtain ⟨o, ho, hc⟩ := he
  refine wpAny_bind (wpAny_isInstance (T := "StopIteration") (b := true) ⟨o, ho, hc⟩ isSubtype_stop ?_)
  exact wpAny_pure (hQ _ hk)
end
open PySem.Spec PyProof.Rows L2
/-- the pairs of two tuples, each kept -/
def ItN (K : PySem.W.Frag) (a b : Addr) : It :=
  ⟨fun i H => ∃ (xs ys : List V) (x y : V), SqT K H a xs ∧ SqT K H b ys ∧ xs[i]? = some x ∧ ys[i]? = some y,
    fun i H v H' => ∃ T x y, v = .ref T ∧ H T = none ∧ H' = upd H T (.tup [x, y]) ∧ (∀ xs, SqT K H a xs → xs[i]? = some x) ∧ ∀ ys, SqT K H b ys → ys[i]? = some y,
    fun i H => ∃ xs ys : List V, SqT K H a xs ∧ SqT K H b ys ∧ xs.length ≤ i⟩
def stN (z TI TO i1 i2 a b : Addr) (i : Nat) (h : Heap) : Prop := (∃ f0 f, ZAt h z TI TO f0 f ∧ Out f0) ∧ IsPair h TI (.ref i1) (.ref i2) ∧ (∃ x y, IsPair h TO x y) ∧ h.IsTupleIter i1 a i ∧ h.IsTupleIter i2 b i
theorem five {P : Addr → Prop} {z TI TO i1 i2 : Addr} (p1 : P z) (p2 : P TI) (p3 : P TO) (p4 : P i1) (p5 : P i2) (c : Addr) (hc : c ∈ [z, TI, TO, i1, i2]) : P c := by
  have e' : c = z ∨ c = TI ∨ c = TO ∨ c = i1 ∨ c = i2 := by simpa using hc
  rcases e' with q | q | q | q | q <;> rw [q] <;> assumption
theorem turnN {P : Program} {w : World} {K : PySem.W.Frag} {x : Str} {tpos : Pos} {a b z TI TO i1 i2 : Addr} (D : ZipApart z TI TO i1 i2 a b) :
    Turn P w K (.Name x tpos) (ItN K a b) [z, TI, TO, i1, i2] z (stN z TI TO i1 i2 a b) where
  mem := by simp
  obj := fun i h st => by
    obtain ⟨⟨f0, f, hz, hf⟩, hTI, ⟨x, y, hTO⟩, ⟨o1, e1, _, d1⟩, ⟨o2, e2, _, d2⟩⟩ := st
    exact five ⟨_, hz, fun v q => nomatch q⟩ ⟨_, hTI, fun v q => nomatch q⟩ ⟨_, hTO, fun v q => nomatch q⟩ ⟨o1, e1, fun v q => by rw [d1] at q; cases q⟩ ⟨o2, e2, fun v q => by rw [d2] at q; cases q⟩
  keep := fun i h h' st k => by
    obtain ⟨⟨f0, f, hz, hf⟩, hTI, ⟨x, y, hTO⟩, h1, h2⟩ := st
    exact ⟨⟨f0, f, k z (by simp) _ hz, hf⟩, k TI (by simp) _ hTI, ⟨x, y, k TO (by simp) _ hTO⟩, h1.at fun o q => k i1 (by simp) o q, h2.at fun o q => k i2 (by simp) o q⟩
  item := by
    intro X hP hw hK hc i pins s σ H E I hf st hg
    subst hP hw hK
    obtain ⟨⟨f0, f, hz, hout⟩, hTI, ⟨x0, y0, hTO⟩, h1, h2⟩ := st
    obtain ⟨xs, ys, x, y, hqx, hqy, hx, hy⟩ := hg
    obtain ⟨its, rv, p, _⟩ := I.tuple hqx
    obtain ⟨its2, rv2, p2, _⟩ := I.tuple hqy
    obtain ⟨u, hu, ru⟩ := rv.get hx
    obtain ⟨u2, hu2, ru2⟩ := rv2.get hy
    refine py_item D hz hout hTI hTO h1 h2 p p2 (x := u) (y := u2) (by simpa using hu) (by simpa using hu2) fun h' g0 g z' out' TO' h1' h2' hT hsz hk => ?_
    have new : ObjOk X.prog X.w (upd H s.heap.objs.size (.tup [x, y])) h' s.heap.objs.size (.tup [x, y]) :=
      ⟨by show 2 ≤ sizeLine; decide, [u, u2], .cons ru (.cons ru2 .nil), ⟨_, hT, rfl, _, rfl⟩⟩
    have I1 : Inv X pins σ (upd H s.heap.objs.size (.tup [x, y])) { s with heap := h' } :=
      I.turnedNew (t' := s.toks) (ch := [z, TI, TO, i1, i2]) (fun c o hb q => hk c o (fun q' => hb (by simp [q'])) (fun q' => hb (by simp [q'])) (fun q' => hb (by simp [q'])) (fun q' => hb (by simp [q'])) q) hf (Nat.le_refl _) new
    refine ⟨_, rfl, wpAny_pure ?_⟩
    refine ⟨.ref s.heap.objs.size, _, I1, rfl, ⟨_, x, y, rfl, I.hok.fresh (Nat.le_refl _), rfl, fun l hl => by rw [I.tuple_inj hl hqx]; exact hx, fun l hl => by rw [I.tuple_inj hl hqy]; exact hy⟩, ⟨⟨g0, g, z', out'⟩, ?_, TO', h1', h2'⟩, fun c hcm => ?_⟩
    · exact hk _ _ D.TIz D.TITO D.TIi1 D.TIi2 hTI
    · have hlt : c < s.heap.objs.size := by
        refine five (P := fun c => c < s.heap.objs.size) (Heap.lt_size hz) (Heap.lt_size hTI) (Heap.lt_size hTO) ?_ ?_ c hcm
        · obtain ⟨_, e1, _⟩ := h1; exact Heap.lt_size e1
        · obtain ⟨_, e2, _⟩ := h2; exact Heap.lt_size e2
      rw [upd_ne (Nat.ne_of_lt hlt)]
      exact (hf c hcm).1
  done := by
    intro X hP hw hK hc i pins s σ H E I hf st hg
    subst hP hw hK
    obtain ⟨⟨f0, f, hz, hout⟩, hTI, ⟨x0, y0, hTO⟩, h1, h2⟩ := st
    obtain ⟨xs, ys, hqx, hqy, hend⟩ := hg
    obtain ⟨its, rv, p, _⟩ := I.tuple hqx
    obtain ⟨its2, rv2, p2, _⟩ := I.tuple hqy
    have l1 := rv.length
    have he : its.toArray[i]? = none := by simp; omega
    exact py_end (I.ok.hd hc) D hz hout hTI hTO h1 h2 p p2 he fun h' hk => ⟨rfl, I.turnedL (t' := s.toks) (ch := [z, TI, TO, i1, i2]) (fun c o hb q =>
      hk c o (fun q' => hb (by simp [q'])) (fun q' => hb (by simp [q'])) (fun q' => hb (by simp [q'])) (fun q' => hb (by simp [q'])) q) hf⟩
  self := fun A i s Q E st h => by
    obtain ⟨⟨f0, f, hz, _⟩, _⟩ := st
    have hT : s.TypeIs (.ref z) "zip" := ⟨_, hz, rfl⟩
    refine wpAny_pyIter_slot hT F.slot_zip_iter (wpAny_call_entry F.slot_zip_iter hT F.entry_zip_iter ?_ (F.args_zip_iter_1 _))
    show wpAny _ _ (ret (.ref z)) _ _ s
    exact wpAny_pure ⟨_, rfl, "zip", _, hT, F.slot_zip_next.lookup, h⟩
/-- zip(*t), t a tuple of two tuples -/
def iZipS (K : PySem.W.Frag) (te : TE) : TI := fun σ H R => te σ H fun y H1 => ∃ t a b xs ys, y = V.ref t ∧ SqT K H1 t [.ref a, .ref b] ∧ SqT K H1 a xs ∧ SqT K H1 b ys ∧ R (ItN K a b) H1
theorem pi_zipS {X : Cx} {e : Expr} {te : TE} {x : Str} {p sp pos tpos : Pos} (hg : Gl X "zip") (hm : X.mg "zip" = none) (he : PE X e te)
    (hst : starEach [.Starred e sp] X.env = [(true, eval e X.env)] := by rfl) : PI X (.Name x tpos) (.Call (.Name "zip" p) [.Starred e sp] [] pos) (iZipS X.K te) := by
  refine ⟨fun pins s σ H R I h => ?_⟩
  refine Call_ (ld_blt I hg hm PyProof.Rows.boot_zip ?_)
  rw [hst]
  refine PySem.W.ks_call (P := fun _ => True) rfl (fun _ _ => ⟨.machine, .inr (.inl rfl), .of_pure rfl⟩) (PySem.W.ks_lone (thn (he.run pins s σ H _ I h) fun v s1 ⟨y, H1, I1, ry, t, a, b, xs, ys, ey, ht, hqx, hqy, q⟩ => ?_))
  subst ey
  obtain rfl : v = Value.ref t := ry
  refine star_tup I1 ht fun us s1 I1 rv => ⟨trivial, ?_⟩
  cases rv with
  | cons r rr =>
    cases rr with
    | cons r' rr =>
      cases rr
      cases r
      cases r'
      obtain ⟨its, rv, p1, _⟩ := I1.tuple hqx
      obtain ⟨its2, rv2, p2, _⟩ := I1.tuple hqy
      obtain ⟨o1, ho1, _⟩ := id p1
      obtain ⟨o2, ho2, _⟩ := id p2
      refine RZ.call_zipT (show s1.heap.IsTuple a its.toArray from p1) (show s1.heap.IsTuple b its2.toArray from p2) fun h' hz hTI hTO h1 h2 hsz hk => wpAny_pyIter_zip hz ?_
      have I2 : Inv X pins σ H1 { s1 with heap := h' } := I1.kept (t' := s1.toks) hk
      have fr : ∀ c, s1.heap.objs.size ≤ c → FpOk X pins H1 c := fun c hle => I1.fpOk hle (I1.hok.fresh hle)
      exact ⟨s1.heap.objs.size + 4, [s1.heap.objs.size + 4, s1.heap.objs.size + 2, s1.heap.objs.size + 3, s1.heap.objs.size, s1.heap.objs.size + 1], _, _, H1, rfl, I2, turnN (PySem.W.ktu_apart s1.heap.objs.size a b (Heap.lt_size ho1) (Heap.lt_size ho2)),
        ⟨⟨_, _, hz, .inl rfl⟩, hTI, ⟨_, _, hTO⟩, h1, h2⟩, five (fr _ (Nat.le_add_right _ _)) (fr _ (Nat.le_add_right _ _)) (fr _ (Nat.le_add_right _ _)) (fr _ (Nat.le_refl _)) (fr _ (Nat.le_add_right _ _)), q⟩
/-- a comprehension over such pairs, both of one length -/
theorem lc_zipN {K : PySem.W.Frag} {a b : Addr} {xs ys : List V} {g : TG} {tt : TT} {te : TE} {vs : List Nat} {σ : L2.St} {H1 : Hp} {D : Addr} {Qd : Hp → Prop} (hlen : xs.length = ys.length) (Pv : Nat → Hp → Prop) (h0 : Pv 0 (upd H1 D (.lst [])))
    (hq : ∀ i H, Pv i H → SqT K H a xs ∧ SqT K H b ys)
    (hs : ∀ i x y T H, xs[i]? = some x → ys[i]? = some y → Pv i H → H T = none → g (.ref T) (wipe σ vs) (upd H T (.tup [x, y])) fun σ2 H2 => wipe σ2 vs = wipe σ vs ∧ tt σ2 H2 fun b H3 =>
      if b = true then te σ2 H3 fun y H4 => ∃ acc, H4 D = some (.lst acc) ∧ acc.length < sizeLine ∧ Pv (i + 1) (upd H4 D (.lst (acc ++ [y]))) else Pv (i + 1) H3) (hd : ∀ H, Pv xs.length H → Qd H) :
    ∃ W : Nat → Nat → Hp → Prop, (∃ m, W 0 m (upd H1 D (.lst []))) ∧ ∀ i m H, W i m H →
      ((ItN K a b).stop i H ∧ Qd H) ∨ ((ItN K a b).go i H ∧ ∃ Nx : Hp → Prop, (∀ H', Nx H' → ∃ m', m' < m ∧ W (i + 1) m' H') ∧ ∀ x H', (ItN K a b).yld i H x H' → g x (wipe σ vs) H' fun σ2 H2 => wipe σ2 vs = wipe σ vs ∧ tt σ2 H2 fun b H3 =>
        if b = true then te σ2 H3 fun y H4 => ∃ acc, H4 D = some (.lst acc) ∧ acc.length < sizeLine ∧ Nx (upd H4 D (.lst (acc ++ [y]))) else Nx H3) := by
  refine ⟨fun i m H => m = xs.length - i ∧ i ≤ xs.length ∧ Pv i H, ⟨xs.length, rfl, Nat.zero_le _, h0⟩, ?_⟩
  rintro i m H ⟨rfl, hi, p⟩
  obtain ⟨qx, qy⟩ := hq i H p
  by_cases hlt : i < xs.length
  · have hx : xs[i]? = some xs[i] := List.getElem?_eq_getElem hlt
    have hlt2 : i < ys.length := by omega
    have hy : ys[i]? = some ys[i] := List.getElem?_eq_getElem hlt2
    refine .inr ⟨⟨xs, ys, _, _, qx, qy, hx, hy⟩, Pv (i + 1), fun H' p' => ⟨xs.length - (i + 1), by omega, rfl, hlt, p'⟩, fun v H' y => ?_⟩
    obtain ⟨T, x', y', rfl, hT, rfl, f1, f2⟩ := y
    exact hs i x' y' T H (f1 xs qx) (f2 ys qy) p hT
  · have e : i = xs.length := by omega
    subst e
    exact .inl ⟨⟨xs, ys, qx, qy, Nat.le_refl _⟩, hd H p⟩
end MZ
/-! The mathematics: the mirror of the package's numbers, and the law over it -/
namespace M
/-- the breaks -/
inductive Br where
  | inn | lf | ls | ff | fs | tf | ts
  deriving DecidableEq
def over (a b : Int) : Int := -((-a) / b)
/-- a rule by weights: p, q, k; of a turn rule t, s, r -/
structure Rl where
  p : Int
  q : Int
  k : Int
  turn : Option (Int × Int × Int)
def Rl.b (R : Rl) (x : Int) : Int := (R.p * x + R.k) / R.q
structure Rl.Ok (R : Rl) : Prop where
  q1 : 1 ≤ R.q
  qp : R.q ≤ R.p
  p6 : R.p ≤ 6
  k1 : -6 ≤ R.k
  k6 : R.k ≤ 6
  hv : 2 * R.q ≤ R.p + R.k
  tn : ∀ t s r, R.turn = some (t, s, r) → 1 ≤ t ∧ t ≤ 8 ∧ 1 ≤ s ∧ s ≤ 8 ∧ -6 ≤ r ∧ r ≤ 6
def inS (R : Rl) (h : Int) : Int × Int := (max 1 (over (R.q * h - R.k) (R.p + R.q)), min (h - 1) ((R.p * h + R.k) / (R.p + R.q)))
def tuS (R : Rl) (h : Int) (n : Bool) : Int × Int := match R.turn with
  | some (t, s, r) => if n then ((inS R h).1, min (inS R h).2 ((t * h + r) / (s + t))) else (max (inS R h).1 ((t * h + r) / (s + t) + 1), (inS R h).2)
  | none => inS R h
def onS (R : Rl) (l h : Int) (b : Br) (st : Int × Int) : Int × Int := match b with
  | .lf => (st.1, min st.2 ((R.q * l - (R.k + 1)) / R.p))
  | .ls => (max st.1 (over (R.p * l + (R.k + 1)) R.q), st.2)
  | .tf => (max st.1 (over (R.p * h + (R.k + 1) - R.q * l) (R.p + R.q)), st.2)
  | _ => (st.1, min st.2 ((R.q * h - R.p * l - (R.k + 1)) / (R.p + R.q)))
def nrS (R : Rl) (l h : Int) (b : Br) (c : Int) : Int × Int := match b with
  | .lf => (max 1 (over (R.q * c - R.k) (R.p + R.q)), min (min (c - 1) ((R.p * c + R.k) / (R.p + R.q))) ((R.q * l - (R.k + 1)) / R.p))
  | .ls => (max (max 1 (over (R.q * c - R.k) (R.p + R.q))) (over (R.p * l + (R.k + 1)) R.q), min (c - 1) ((R.p * c + R.k) / (R.p + R.q)))
  | .ff => (max 1 (over (R.q * c - R.k) (R.p + R.q)), min (min (c - 1) ((R.p * c + R.k) / (R.p + R.q))) (c - over (R.p * (h - c) + (R.k + 1)) R.q))
  | .fs => (max (max 1 (over (R.q * c - R.k) (R.p + R.q))) (c - (R.q * (h - c) - (R.k + 1)) / R.p), min (c - 1) ((R.p * c + R.k) / (R.p + R.q)))
  | .tf => (max (max 1 (over (R.q * c - R.k) (R.p + R.q))) (over (R.p * h + (R.k + 1) - R.q * l) (R.p + R.q)), min (c - 1) ((R.p * c + R.k) / (R.p + R.q)))
  | _ => (max 1 (over (R.q * c - R.k) (R.p + R.q)), min (min (c - 1) ((R.p * c + R.k) / (R.p + R.q))) ((R.q * h - R.p * l - (R.k + 1)) / (R.p + R.q)))
def nrF (R : Rl) (l h : Int) (b : Br) (c : Int) : Option Int := if (nrS R l h b c).1 ≤ (nrS R l h b c).2 then some (nrS R l h b c).1 else none
/-- which cases there are: the break of one turn, of two turns -/
def stO (R : Rl) (l h : Int) (o w : Option Br) : Int × Int := match o, w with
  | some b, some _ => onS R l h b (inS R h)
  | some b, none => onS R l h b (tuS R h true)
  | none, none => tuS R h true
  | none, some _ => tuS R h false
/-- the worst inner weight stands at the start of the stretch -/
def small : Br → Bool
  | .lf => true
  | .fs => true
  | .ts => true
  | _ => false
def worst (R : Rl) (l h : Int) (o : Option Br) (b : Br) : Int := if small b then max 2 (stO R l h o (some b)).1 else (stO R l h o (some b)).2
def canB (R : Rl) (l h : Int) (o w : Option Br) : Bool :=
  if (stO R l h o w).2 < (stO R l h o w).1 then false else match w with
    | none => true
    | some .inn => decide ((stO R l h o w).1 ≤ 1)
    | some b => decide (1 < worst R l h o b ∧ worst R l h o b ≤ (stO R l h o w).2) && (nrF R l h b (worst R l h o b)).isSome
/-- numbers that a case is told with -/
def Nums (R : Rl) (l h : Int) (o w : Option Br) (xs : List Int) : Prop := ∃ c : Int, (stO R l h o w).1 ≤ c ∧ c ≤ (stO R l h o w).2 ∧
  (((w = none ∨ (w = some .inn ∧ c ≤ 1)) ∧ xs = [l, c, h - c]) ∨ ∃ b e, w = some b ∧ b ≠ .inn ∧ 2 ≤ c ∧ (nrS R l h b c).1 ≤ e ∧ e ≤ (nrS R l h b c).2 ∧ xs = [l, e, c - e, h - c])

theorem le_div {c x d : Int} (hd : 0 < d) : c ≤ x / d ↔ d * c ≤ x := by
  rw [Int.le_ediv_iff_mul_le hd, Int.mul_comm]
theorem over_le {c x d : Int} (hd : 0 < d) : over x d ≤ c ↔ x ≤ d * c := by
  unfold over
  have h : -c ≤ (-x) / d ↔ d * (-c) ≤ -x := le_div hd
  rw [Int.mul_neg] at h
  omega
section
variable {R : Rl} {l h c e : Int} {o : Option Br}
theorem inS_mem (ok : R.Ok) : ((inS R h).1 ≤ c ∧ c ≤ (inS R h).2) ↔ (1 ≤ c ∧ c ≤ h - 1 ∧ R.q * h - R.k ≤ R.p * c + R.q * c ∧ R.p * c + R.q * c ≤ R.p * h + R.k) := by
  have hd : 0 < R.p + R.q := by have := ok.q1; have := ok.qp; omega
  unfold inS
  have a := over_le (c := c) (x := R.q * h - R.k) hd
  have b := le_div (c := c) (x := R.p * h + R.k) hd
  rw [Int.add_mul] at a b
  omega
/-- beside the near side -/
theorem near_mem (ok : R.Ok) : (max 1 (over (R.q * c - R.k) (R.p + R.q)) ≤ e ∧ e ≤ min (c - 1) ((R.p * c + R.k) / (R.p + R.q))) ↔ (1 ≤ e ∧ e ≤ c - 1 ∧ R.q * c - R.k ≤ R.p * e + R.q * e ∧ R.p * e + R.q * e ≤ R.p * c + R.k) := inS_mem (h := c) (c := e) ok
/-- there always is one: halves -/
theorem near_some (ok : R.Ok) (hc : 2 ≤ c) : max 1 (over (R.q * c - R.k) (R.p + R.q)) ≤ min (c - 1) ((R.p * c + R.k) / (R.p + R.q)) := by
  have hh : max 1 (over (R.q * c - R.k) (R.p + R.q)) ≤ c / 2 ∧ c / 2 ≤ min (c - 1) ((R.p * c + R.k) / (R.p + R.q)) := by
    rw [near_mem ok]
    have q1 := ok.q1
    have qp := ok.qp
    have hv := ok.hv
    obtain ⟨m, hm⟩ : ∃ m, m = c / 2 := ⟨_, rfl⟩
    rw [← hm]
    have e2 : c = 2 * m ∨ c = 2 * m + 1 := by omega
    have m1 : 1 ≤ m := by omega
    have pm : R.q * m ≤ R.p * m := Int.mul_le_mul_of_nonneg_right qp (by omega)
    have pp : (R.p - R.q) * 1 ≤ (R.p - R.q) * m := Int.mul_le_mul_of_nonneg_left m1 (by omega)
    simp only [Int.sub_mul, Int.mul_one] at pp
    rcases e2 with e2 | e2
    · rw [e2, Int.mul_comm R.q (2 * m), Int.mul_comm R.p (2 * m), Int.mul_assoc, Int.mul_assoc, Int.mul_comm m R.q, Int.mul_comm m R.p]
      refine ⟨m1, by omega, by omega, by omega⟩
    · rw [e2, Int.mul_add, Int.mul_add, Int.mul_comm R.q (2 * m), Int.mul_comm R.p (2 * m), Int.mul_assoc, Int.mul_assoc, Int.mul_comm m R.q, Int.mul_comm m R.p]
      refine ⟨m1, by omega, by omega, by omega⟩
  omega
/-- what a break of two turns asks of the near side -/
def NearB (R : Rl) (l h c e : Int) : Br → Prop
  | .lf => R.q * l - R.p * e ≥ R.k + 1
  | .ls => R.q * e - R.p * l ≥ R.k + 1
  | .ff => R.q * (c - e) - R.p * (h - c) ≥ R.k + 1
  | .fs => R.q * (h - c) - R.p * (c - e) ≥ R.k + 1
  | .tf => R.q * (l + e) - R.p * (h - e) ≥ R.k + 1
  | _ => R.q * (h - e) - R.p * (l + e) ≥ R.k + 1
theorem nrS_mem (ok : R.Ok) {b : Br} (hb : b ≠ .inn) : ((nrS R l h b c).1 ≤ e ∧ e ≤ (nrS R l h b c).2) ↔
    ((1 ≤ e ∧ e ≤ c - 1 ∧ R.q * c - R.k ≤ R.p * e + R.q * e ∧ R.p * e + R.q * e ≤ R.p * c + R.k) ∧ NearB R l h c e b) := by
  have q1 := ok.q1
  have qp := ok.qp
  have hp : 0 < R.p := by omega
  have hq : 0 < R.q := by omega
  have hd : 0 < R.p + R.q := by omega
  rw [← near_mem ok]
  generalize hl : max 1 (over (R.q * c - R.k) (R.p + R.q)) = lo
  generalize hm : min (c - 1) ((R.p * c + R.k) / (R.p + R.q)) = hi
  cases b with
  | inn => exact absurd rfl hb
  | lf =>
    have a := le_div (c := e) (x := R.q * l - (R.k + 1)) hp
    simp only [nrS, NearB, hl, hm]
    omega
  | ls =>
    have a := over_le (c := e) (x := R.p * l + (R.k + 1)) hq
    simp only [nrS, NearB, hl, hm]
    omega
  | ff =>
    have a := over_le (c := c - e) (x := R.p * (h - c) + (R.k + 1)) hq
    simp only [nrS, NearB, hl, hm]
    omega
  | fs =>
    have a := le_div (c := c - e) (x := R.q * (h - c) - (R.k + 1)) hp
    simp only [nrS, NearB, hl, hm]
    omega
  | tf =>
    have a := over_le (c := e) (x := R.p * h + (R.k + 1) - R.q * l) hd
    simp only [nrS, NearB, hl, hm]
    simp only [Int.add_mul, Int.mul_add, Int.mul_sub] at a ⊢
    omega
  | ts =>
    have a := le_div (c := e) (x := R.q * h - R.p * l - (R.k + 1)) hd
    simp only [nrS, NearB, hl, hm]
    simp only [Int.add_mul, Int.mul_add, Int.mul_sub] at a ⊢
    omega
/-- fair beside each other: the near and the far side of an inner side of weight c -/
def Base (R : Rl) (c e : Int) : Prop := 1 ≤ e ∧ e ≤ c - 1 ∧ R.q * c - R.k ≤ R.p * e + R.q * e ∧ R.p * e + R.q * e ≤ R.p * c + R.k
/-- the least near side -/
def lo (R : Rl) (c : Int) : Int := max 1 (over (R.q * c - R.k) (R.p + R.q))
theorem lo_base (ok : R.Ok) (hc : 2 ≤ c) : Base R c (lo R c) := (near_mem ok).mp ⟨Int.le_refl _, near_some ok hc⟩
theorem lo_le (ok : R.Ok) (h1 : 1 ≤ e) (h2 : R.q * c - R.k ≤ R.p * e + R.q * e) : lo R c ≤ e := by
  have hd : 0 < R.p + R.q := by have := ok.q1; have := ok.qp; omega
  have a := over_le (c := e) (x := R.q * c - R.k) hd
  rw [Int.add_mul] at a
  unfold lo
  omega
theorem hi_base (ok : R.Ok) (hc : 2 ≤ c) : Base R c (c - lo R c) := by
  obtain ⟨a1, a2, a3, a4⟩ := lo_base ok hc
  unfold Base
  simp only [Int.mul_sub]
  omega
theorem le_hi (ok : R.Ok) (h1 : e ≤ c - 1) (h2 : R.p * e + R.q * e ≤ R.p * c + R.k) : e ≤ c - lo R c := by
  have a := lo_le (R := R) (c := c) (e := c - e) ok (by omega) (by simp only [Int.mul_sub]; omega)
  omega
def NE (R : Rl) (l h : Int) (b : Br) (c : Int) : Prop := ∃ e, Base R c e ∧ NearB R l h c e b
theorem ne_iff (ok : R.Ok) {b : Br} (hb : b ≠ .inn) : ((nrS R l h b c).1 ≤ (nrS R l h b c).2) ↔ NE R l h b c := by
  constructor
  · intro q
    exact ⟨_, (nrS_mem ok hb).mp ⟨Int.le_refl _, q⟩⟩
  · rintro ⟨e, q⟩
    have := (nrS_mem ok hb).mpr q
    omega
/-- what two turns spoil at an inner weight they spoil at a less one .. -/
theorem ne_less (ok : R.Ok) {b : Br} {c' : Int} (hb : small b = true) (h2 : 2 ≤ c') (hc : c' ≤ c) (q : NE R l h b c) : NE R l h b c' := by
  obtain ⟨e, ⟨a1, a2, a3, a4⟩, nb⟩ := q
  have q1 := ok.q1
  have qp := ok.qp
  have mq : R.q * c' ≤ R.q * c := Int.mul_le_mul_of_nonneg_left hc (by omega)
  cases b with
  | lf =>
    have le := lo_le (c := c') ok a1 (by omega)
    have mp : R.p * lo R c' ≤ R.p * e := Int.mul_le_mul_of_nonneg_left le (by omega)
    refine ⟨_, lo_base ok h2, ?_⟩
    simp only [NearB] at nb ⊢
    omega
  | fs =>
    have le := lo_le (c := c') (e := c - e) ok (by omega) (by simp only [Int.mul_sub]; omega)
    have mp : R.p * lo R c' ≤ R.p * (c - e) := Int.mul_le_mul_of_nonneg_left le (by omega)
    refine ⟨_, hi_base ok h2, ?_⟩
    simp only [NearB, Int.mul_sub] at nb mp ⊢
    omega
  | ts =>
    have le := lo_le (c := c') ok a1 (by omega)
    have mp : R.p * lo R c' ≤ R.p * e := Int.mul_le_mul_of_nonneg_left le (by omega)
    have mq : R.q * lo R c' ≤ R.q * e := Int.mul_le_mul_of_nonneg_left le (by omega)
    refine ⟨_, lo_base ok h2, ?_⟩
    simp only [NearB, Int.mul_sub, Int.mul_add] at nb ⊢
    omega
  | inn => cases hb
  | ls => cases hb
  | ff => cases hb
  | tf => cases hb
/-- .. or at a greater one -/
theorem ne_more (ok : R.Ok) {b : Br} {c' : Int} (hb : small b = false) (hi : b ≠ .inn) (h2 : 2 ≤ c) (hc : c ≤ c') (q : NE R l h b c) : NE R l h b c' := by
  obtain ⟨e, ⟨a1, a2, a3, a4⟩, nb⟩ := q
  have q1 := ok.q1
  have qp := ok.qp
  have mp : R.p * c ≤ R.p * c' := Int.mul_le_mul_of_nonneg_left hc (by omega)
  have h2' : 2 ≤ c' := by omega
  cases b with
  | ls =>
    have le := le_hi (c := c') ok (e := e) (by omega) (by omega)
    have mq : R.q * e ≤ R.q * (c' - lo R c') := Int.mul_le_mul_of_nonneg_left le (by omega)
    refine ⟨_, hi_base ok h2', ?_⟩
    simp only [NearB] at nb ⊢
    omega
  | ff =>
    have le := le_hi (c := c') ok (e := c - e) (by omega) (by simp only [Int.mul_sub]; omega)
    have mq : R.q * (c - e) ≤ R.q * (c' - lo R c') := Int.mul_le_mul_of_nonneg_left le (by omega)
    refine ⟨_, lo_base ok h2', ?_⟩
    simp only [NearB, Int.mul_sub] at nb mq ⊢
    omega
  | tf =>
    have le := le_hi (c := c') ok (e := e) (by omega) (by omega)
    have mq : R.q * e ≤ R.q * (c' - lo R c') := Int.mul_le_mul_of_nonneg_left le (by omega)
    have mp2 : R.p * e ≤ R.p * (c' - lo R c') := Int.mul_le_mul_of_nonneg_left le (by omega)
    refine ⟨_, hi_base ok h2', ?_⟩
    simp only [NearB, Int.mul_sub, Int.mul_add] at nb mq mp2 ⊢
    omega
  | inn => exact absurd rfl hi
  | lf => cases hb
  | fs => cases hb
  | ts => cases hb
/-- what a break of one turn asks -/
def OnceB (R : Rl) (l h c : Int) : Br → Prop
  | .lf => R.q * l - R.p * c ≥ R.k + 1
  | .ls => R.q * c - R.p * l ≥ R.k + 1
  | .tf => R.q * (l + c) - R.p * (h - c) ≥ R.k + 1
  | _ => R.q * (h - c) - R.p * (l + c) ≥ R.k + 1
theorem onS_mem (ok : R.Ok) {b : Br} {st : Int × Int} : ((onS R l h b st).1 ≤ c ∧ c ≤ (onS R l h b st).2) ↔ ((st.1 ≤ c ∧ c ≤ st.2) ∧ OnceB R l h c b) := by
  have q1 := ok.q1
  have qp := ok.qp
  have hp : 0 < R.p := by omega
  have hq : 0 < R.q := by omega
  have hd : 0 < R.p + R.q := by omega
  have t1 := le_div (c := c) (x := R.q * l - (R.k + 1)) hp
  have t2 := over_le (c := c) (x := R.p * l + (R.k + 1)) hq
  have t3 := over_le (c := c) (x := R.p * h + (R.k + 1) - R.q * l) hd
  have t4 := le_div (c := c) (x := R.q * h - R.p * l - (R.k + 1)) hd
  simp only [Int.add_mul] at t3 t4
  cases b <;> simp only [onS, OnceB, Int.mul_add, Int.mul_sub] <;> omega
/-- how often a turn rule turns -/
theorem tuS_mem {t s r : Int} (ok : R.Ok) (ht : R.turn = some (t, s, r)) (n : Bool) : ((tuS R h n).1 ≤ c ∧ c ≤ (tuS R h n).2) ↔ (((inS R h).1 ≤ c ∧ c ≤ (inS R h).2) ∧ (if n then s * c ≤ t * (h - c) + r else t * (h - c) + r < s * c)) := by
  obtain ⟨t1, t2, s1, s2, _⟩ := ok.tn t s r ht
  have hd : 0 < s + t := by omega
  have a := le_div (c := c) (x := t * h + r) hd
  simp only [Int.add_mul] at a
  unfold tuS
  rw [ht]
  cases n with
  | true =>
    simp only [if_true, Int.mul_sub]
    omega
  | false =>
    simp only [Bool.false_eq_true, if_false, Int.mul_sub]
    omega
end
end M
/-! x not in a list of instances that are compared by an own __eq__ -/
namespace MIn
open PySem PySem.SeqAt
open AutoSeq1 (wpAny_loadPart')
open MeetsSeq MeetsSeq2 MeetsSeq3 SeqRoads2
section
variable {prog : Program} {w : World} {A : Around} {E : Value → Shared → Prop} {R : Result → Shared → Prop}
/-- at each turn the list is read anew; the i-th item is asked -/
def InI (prog : Program) (w : World) (A : Around) (E : Value → Shared → Prop) (l : Addr) (x : Value) (N : Nat) (Qt : Shared → Prop) (I : Nat → Shared → Prop) : Prop :=
  ∀ i s, I i s → ∃ (items : Array Value) (n : Nat), s.heap.get? l = some { cls := .type "list", data := .seq items n } ∧ items.size = N ∧
    ∀ (h1 : i < items.size), wpAny (model prog w) A.in1 (eqBool items[i] x) (fun r s' => (r = true ∧ Qt s') ∨ (r = false ∧ I (i + 1) s')) E s
theorem contains_loopI (l : Addr) (x : Value) (N : Nat) (Qt : Shared → Prop) (I : Nat → Shared → Prop) (hl : InI prog w A (fun e s' => R (.error e) s') l x N Qt I)
    (yes : ∀ s, Qt s → R (.ok (.ret (.bool true))) s) (no : ∀ s, I N s → R (.ok (.ret (.bool false))) s) (k : Nat) :
    ∀ i : Nat, N - i = k → i ≤ N → ∀ s, I i s →
      wpAny (model prog w) A.in1 (Builtin.«list.__contains__.loop» ⟨[.ref l, x, rawInt i], []⟩) (GQ.FinOf prog w A R) (fun e s' => R (.error e) s') s := by
  induction k with
  | zero =>
    intro i hk hi s h
    obtain ⟨items, n, hl1, hs1, _⟩ := hl _ _ h
    have hi' : i = N := by omega
    have hR : R (.ok (.ret (.bool false))) s := no s (hi' ▸ h)
    obtain ⟨hp, g, d, tk, os⟩ := s
    wp_walk using wpAny_loadPart' hl1
    have hi1 : items[((i : Nat) : Int).toNat]? = none := by simp; omega
    rw [hi1]
    wp_walk
    exact hR
  | succ k ih =>
    intro i hk hi s h
    obtain ⟨items, n, hl1, hs1, turn⟩ := hl _ _ h
    have hlt : i < items.size := by omega
    have ht := turn hlt
    obtain ⟨hp, g, d, tk, os⟩ := s
    wp_walk using wpAny_loadPart' hl1
    have hi1 : items[((i : Nat) : Int).toNat]? = some items[i] := by simp [hlt]
    have hc : ((i : Int) + 1) = ((i + 1 : Nat) : Int) := by omega
    rw [hi1]
    refine wpAny_bind (wpAny_mono ht (fun r s2 h2 => ?_) fun _ _ x => x)
    rcases h2 with ⟨hr, h2⟩ | ⟨hr, h2⟩
    · subst hr
      have hR := yes _ h2
      obtain ⟨hp2, g2, d2, tk2, os2⟩ := s2
      wp_walk
      exact hR
    · subst hr
      have hrec := ih (i + 1) (by omega) (by omega) s2 h2
      obtain ⟨hp2, g2, d2, tk2, os2⟩ := s2
      wp_walk
      rw [hc]
      exact ⟨plainId_quiet plain_contains_loop _, codeAny_builtin entry_contains_loop (by
        rw [Around.under_plainId plain_contains_loop _]
        exact hrec)⟩
theorem list_containsI (l : Addr) (x : Value) (N : Nat) (Qt : Shared → Prop) (I : Nat → Shared → Prop) (hl : InI prog w A (fun e s' => R (.error e) s') l x N Qt I)
    (yes : ∀ s, Qt s → R (.ok (.ret (.bool true))) s) (no : ∀ s, I N s → R (.ok (.ret (.bool false))) s) {s : Shared} (h : I 0 s) :
    wpAny (model prog w) A.in1 (Builtin.«list.__contains__» ⟨[.ref l, x], []⟩) (GQ.FinOf prog w A R) (fun e s' => R (.error e) s') s := by
  obtain ⟨items, n, hl1, hs1, _⟩ := hl _ _ h
  have hrec := contains_loopI (A := A) (R := R) l x N Qt I hl yes no _ 0 rfl (Nat.zero_le _) s h
  obtain ⟨hp, g, d, tk, os⟩ := s
  wp_walk using wpAny_loadPart' hl1
  exact ⟨plainId_quiet plain_contains_loop _, codeAny_builtin entry_contains_loop (by
    rw [Around.under_plainId plain_contains_loop _]
    exact hrec)⟩
theorem notIn_I {l : Addr} {x : Value} {N : Nat} {Qt : Shared → Prop} {I : Nat → Shared → Prop} {Q : Value → Shared → Prop} {s : Shared} (hl : InI prog w A E l x N Qt I)
    (yes : ∀ s, Qt s → Q (.bool false) s) (no : ∀ s, I N s → Q (.bool true) s) (h : I 0 s) : wpAny (model prog w) A (compareOp .NotIn x (.ref l)) Q E s := by
  obtain ⟨items, n, hl1, hs1, _⟩ := hl _ _ h
  show wpAny _ A (do return .bool (!(← contains (.ref l) x))) Q E s
  refine wpAny_bind (wpAny_contains_slot (T := "list") ⟨_, hl1, rfl⟩ F.slot_list_contains (wpAny_mono (GQ.call_here F.slot_list_contains ⟨_, hl1, rfl⟩ F.entry_list_contains (F.args_list_contains_2 _ _)
    (list_containsI (R := wants (fun v s' => ∃ b, v = .bool b ∧ Q (.bool (!b)) s') E) l x N Qt I hl (fun s q => ⟨true, rfl, yes s q⟩) (fun s q => ⟨false, rfl, no s q⟩) h)) (fun v s' hv => ?_) fun _ _ e => e))
  obtain ⟨b, rfl, hq⟩ := hv
  exact wpAny_truthy_bool (wpAny_pure hq)
end
end MIn
namespace M
open PySem PySem.Spec PyProof.Rows L2 Evl
/-- == within a list gives this answer, and only makes objects -/
def EqB (X : Cx) (n : Nat) (D : V → V → Hp → Bool → Prop) : Prop :=
  ∀ (A : Around) (pins : List (Addr × Obj)) (s : Shared) (σ : L2.St) (H : Hp) (x y : V) (u v : Value) (b : Bool), L2.Sub X n A → Inv X pins σ H s → RelV x u → RelV y v → D x y H b →
    wpAny (model X.prog X.w) A (eqBool u v) (fun r s' => r = b ∧ ∃ H', Inv X pins σ H' s' ∧ Ex H H') X.xe s
def spEqB (D : V → V → Hp → Bool → Prop) : Sp := fun vs H Q _ => ∃ x y b, vs = [x, y] ∧ D x y H b ∧ ∀ H', Ex H H' → Q (.bl b) H'
/-- instances of the class at C, by their own == -/
theorem eqB_ins {X : Cx} {n : Nat} {C f : Addr} {fd : FuncData} {ps : List Str} {D : V → V → Hp → Bool → Prop} (F : FnOk X.prog X.w X.K X.mg X.base CX0 n f fd ps (spEqB D))
    (hD : ∀ x y H b, D x y H b → ∃ a c dx dy fs gs, x = .ref a ∧ y = .ref c ∧ H a = some (.ins C dx fs) ∧ H c = some (.ins C dy gs))
    (same : ∀ pins σ H s a b, Inv X pins σ H s → D (.ref a) (.ref a) H b → b = true)
    (hs : PySem.W.findIn X.K (.ref C) "__eq__" = some (some (.ref f))) (hf : PySem.W.isFn X.K (.ref f) = true) (hb : Binds X.K fd ps []) : EqB X n D := by
  intro A pins s σ H x y u v b sb I rx ry d
  obtain ⟨a, c, dx, dy, fs, gs, rfl, rfl, ha, hc⟩ := hD _ _ _ _ d
  cases rx
  cases ry
  by_cases hab : a = c
  · subst hab
    exact SeqAt.EqAt.same (A := A) (s := s) (.ref a) X.prog X.w X.xe _ ⟨(same _ _ _ _ _ _ I d).symm, H, I, Ex.refl _⟩
  · refine GQ.eqBool_refG hab ?_
    obtain ⟨mA, J, _⟩ := ins_get I.hok ha
    obtain ⟨mB, J', _⟩ := ins_get I.hok hc
    obtain ⟨od, J, _⟩ := J.look
    obtain ⟨od', J', _⟩ := J'.look
    obtain ⟨m, hF⟩ := I.fr
    refine PySem.W.cmp_K (op := .Eq) (tb := .ref C) sb.room.units0 hF I.ok.mod.kin J J'.type (by simp [PySem.W.notFirst]) hs hf ?_
    have hsp : spEqB D [.ref a, .ref c] H (fun v H' => v = .bl b ∧ Ex H H') E0 := ⟨_, _, b, rfl, d, fun H' e => ⟨rfl, e⟩⟩
    have e0 : Env0 X.prog X.w X.K X.mg X.base A X.stack s H := by
      have e := I.env0
      exact ⟨by rw [sb.fr]; exact e.frames, e.mod, e.bs, e.bsz, e.funs, e.frf, e.hok, e.bare⟩
    have hl := F.len _ _ _ _ hsp
    have r2 : Vals [V.ref a, V.ref c] [Value.ref a, Value.ref c] := .cons rfl (.cons rfl .nil)
    refine wpAny_call (codeAny_mono (F.run A X.stack s H ⟨[.ref a, .ref c], []⟩ [.ref a, .ref c] [.ref a, .ref c] _ E0 sb.room e0 (by
      have := hb s [.ref a, .ref c] I.kIn (by simpa using hl)
      simpa using this) r2 hsp) fun r s' hq => ?_)
    cases r with
    | error e => exact False.elim hq
    | ok fl =>
      cases fl with
      | ret w =>
        obtain ⟨z, H', I', rz, ez, ex⟩ := I.after hq
        subst ez
        cases rz
        exact ⟨b, rfl, rfl, H', I', ex⟩
      | next => exact False.elim hq
      | brk => exact False.elim hq
      | cont => exact False.elim hq
/-- x not in l: every item is asked till one is equal -/
def rNotInB (D : V → V → Hp → Bool → Prop) : R2 := fun x y H Q => ∃ (p : Addr) (xs : List V) (e : V → Bool), y = .ref p ∧ H p = some (.lst xs) ∧ (∀ z ∈ xs, ∀ H', Ex H H' → D z x H' (e z)) ∧ ∀ H', Ex H H' → Q (.bl (!xs.any e)) H'
theorem op_notInB {X : Cx} {n : Nat} {D : V → V → Hp → Bool → Prop} (h : EqB X n D) (hr : Room (n + 1) X.A) : OpR X (compareOp .NotIn) (rNotInB D) := by
  intro pins s σ H x y v u Q I rx ry hq
  obtain ⟨p, xs, e, rfl, hp, hd, q⟩ := hq
  cases ry
  refine MIn.notIn_I (N := xs.length) (Qt := fun s' => ∃ H', Inv X pins σ H' s' ∧ Ex H H' ∧ xs.any e = true) (I := fun i s' => ∃ H', Inv X pins σ H' s' ∧ Ex H H' ∧ (xs.take i).any e = false) (fun i s' hi => ?_) (fun s' ⟨H', I', ex, ht⟩ => ?_) (fun s' ⟨H', I', ex, ht⟩ => ?_) ⟨H, I, Ex.refl _, by simp⟩
  · obtain ⟨H', I', ex, ht⟩ := hi
    obtain ⟨z, its, k, r, e1⟩ := I'.hok p _ (ex _ _ hp)
    refine ⟨its.toArray, k, e1, by rw [List.size_toArray, ← r.length], fun h1 => ?_⟩
    have h1' : i < its.length := by simpa using h1
    have k1 : i < xs.length := by rw [r.length]; exact h1'
    obtain ⟨u', hu, ru⟩ := r.get (List.getElem?_eq_getElem k1)
    have g1 : its[i]? = some its.toArray[i] := by
      rw [List.getElem?_eq_getElem h1'] <;> simp
    rw [g1] at hu
    rw [Option.some.inj hu]
    refine wpAny_mono (h X.A.in1 pins s' σ H' _ _ u' v (e xs[i]) ⟨hr.in1, rfl⟩ I' ru rx (hd _ (List.getElem_mem k1) _ ex)) (fun r' s2 q2 => ?_) fun _ _ x => x
    obtain ⟨hr', H2, I2, e2⟩ := q2
    have ht2 : (xs.take (i + 1)).any e = e xs[i] := by
      rw [List.take_succ, List.any_append, ht, List.getElem?_eq_getElem k1]
      simp
    cases hb : e xs[i] with
    | true =>
      refine .inl ⟨by rw [hr', hb], H2, I2, ex.trans e2, ?_⟩
      rw [List.any_eq_true]
      exact ⟨_, List.getElem_mem k1, hb⟩
    | false => exact .inr ⟨by rw [hr', hb], H2, I2, ex.trans e2, by rw [ht2, hb]⟩
  · have := q H' ex
    rw [ht] at this
    exact ⟨.bl false, H', I', rfl, this⟩
  · have := q H' ex
    rw [List.take_length] at ht
    rw [ht] at this
    exact ⟨.bl true, H', I', rfl, this⟩
end M
namespace M
open PySem PySem.Spec PyProof.Rows L2 Evl
/-- all but lists stands -/
def ExN (H H' : Hp) : Prop := ∀ a o, (∀ l, o ≠ .lst l) → H a = some o → H' a = some o
theorem ExN.refl (H : Hp) : ExN H H := fun _ _ _ h => h
theorem ExN.of {H H' : Hp} (e : Ex H H') : ExN H H' := fun a o _ h => e a o h
theorem ExN.trans {H H1 H2 : Hp} (a : ExN H H1) (b : ExN H1 H2) : ExN H H2 := fun x o n h => b x o n (a x o n h)
theorem ExN.upd {H : Hp} {a : Addr} {l : List V} {o : HO} (h : H a = some (.lst l)) : ExN H (upd H a o) := fun b u n e => by
  by_cases q : b = a
  · rw [q, h] at e
    exact absurd (Option.some.inj e).symm (n l)
  · rw [upd_ne q]
    exact e
theorem ExN.t {K : PySem.W.Frag} {H H' : Hp} {a : Addr} {xs : List V} (e : ExN H H') (h : SqT K H a xs) : SqT K H' a xs := by
  rcases h with (h | ⟨o, h⟩) | h
  · exact .inl (.inl (e _ _ (fun l z => by cases z) h))
  · exact .inl (.inr ⟨o, e _ _ (fun l z => by cases z) h⟩)
  · exact .inr h
theorem ExN.fld {K : PySem.W.Frag} {H H' : Hp} {a : Addr} {f : Str} {v : V} (e : ExN H H') (h : Fld K H a f v) : Fld K H' a f v := by
  obtain ⟨C, dx, fs, h, r⟩ := h
  exact ⟨C, dx, fs, e _ _ (fun l z => by cases z) h, r⟩
theorem ExN.ins {H H' : Hp} {a C : Addr} {m : Str} (e : ExN H H') (h : Ins H a C m) : Ins H' a C m := by
  obtain ⟨dx, fs, h, r⟩ := h
  exact ⟨dx, fs, e _ _ (fun l z => by cases z) h, r⟩
/-- item by item -/
def All2 {α : Type} (R : α → V → Hp → Prop) (l : List α) (ys : List V) (H : Hp) : Prop := ys.length = l.length ∧ ∀ (i : Nat) (j : α) (y : V), l[i]? = some j → ys[i]? = some y → R j y H
theorem All2.nil {α : Type} {R : α → V → Hp → Prop} {H : Hp} : All2 R [] [] H := ⟨rfl, fun i j y h => by simp at h⟩
theorem All2.mono {α : Type} {R : α → V → Hp → Prop} {l : List α} {ys : List V} {H H' : Hp} (h : All2 R l ys H) (m : ∀ j y, R j y H → R j y H') : All2 R l ys H' := ⟨h.1, fun _ _ _ a b => m _ _ (h.2 _ _ _ a b)⟩
theorem All2.snoc {α : Type} {R : α → V → Hp → Prop} {l : List α} {ys : List V} {H : Hp} {j : α} {y : V} (h : All2 R l ys H) (r : R j y H) : All2 R (l ++ [j]) (ys ++ [y]) H := by
  refine ⟨by simp [h.1], fun i j' y' a b => ?_⟩
  by_cases hi : i < l.length
  · rw [List.getElem?_append_left hi] at a
    rw [List.getElem?_append_left (by rw [h.1]; exact hi)] at b
    exact h.2 i j' y' a b
  · rw [List.getElem?_append_right (by omega)] at a
    rw [List.getElem?_append_right (by rw [h.1]; omega)] at b
    rw [h.1] at b
    cases e : i - l.length with
    | zero =>
      rw [e] at a b
      cases a
      cases b
      exact r
    | succ k =>
      rw [e] at a
      simp at a
theorem All2.append {α : Type} {R : α → V → Hp → Prop} {l l' : List α} {ys ys' : List V} {H : Hp} (h : All2 R l ys H) (h' : All2 R l' ys' H) : All2 R (l ++ l') (ys ++ ys') H := by
  refine ⟨by simp [h.1, h'.1], fun i j' y' a b => ?_⟩
  by_cases hi : i < l.length
  · rw [List.getElem?_append_left hi] at a
    rw [List.getElem?_append_left (by rw [h.1]; exact hi)] at b
    exact h.2 i j' y' a b
  · rw [List.getElem?_append_right (by omega)] at a
    rw [List.getElem?_append_right (by rw [h.1]; omega)] at b
    rw [h.1] at b
    exact h'.2 _ _ _ a b
theorem All2.map {α : Type} {F : α → V} {l : List α} {ys : List V} {H : Hp} (h : All2 (fun j y _ => y = F j) l ys H) : ys = l.map F := by
  refine List.ext_getElem? fun i => ?_
  rw [List.getElem?_map]
  by_cases hi : i < l.length
  · have a : l[i]? = some l[i] := List.getElem?_eq_getElem hi
    have hi2 : i < ys.length := by rw [h.1]; exact hi
    have b : ys[i]? = some ys[i] := List.getElem?_eq_getElem hi2
    rw [a, b, h.2 i _ _ a b]
    rfl
  · rw [List.getElem?_eq_none (by have := h.1; omega), List.getElem?_eq_none (by omega)]
    rfl
theorem All2.cons {α : Type} {R : α → V → Hp → Prop} {j : α} {l : List α} {ys : List V} {H : Hp} (h : All2 R (j :: l) ys H) : ∃ y zs, ys = y :: zs ∧ R j y H ∧ All2 R l zs H := by
  obtain ⟨h1, h2⟩ := h
  cases ys with
  | nil => cases h1
  | cons y zs => exact ⟨y, zs, rfl, h2 0 j y rfl rfl, by simpa using h1, fun i j' y' a b => h2 (i + 1) j' y' (by simpa using a) (by simpa using b)⟩
theorem All2.mk {α : Type} {R : α → V → Hp → Prop} {j : α} {l : List α} {y : V} {zs : List V} {H : Hp} (r : R j y H) (h : All2 R l zs H) : All2 R (j :: l) (y :: zs) H := by
  obtain ⟨h1, h2⟩ := h
  refine ⟨by simp [h1], fun i j' y' a b => ?_⟩
  cases i with
  | zero =>
    cases a
    cases b
    exact r
  | succ k => exact h2 k j' y' (by simpa using a) (by simpa using b)
theorem sz (n : Nat) (h : n < 1000) : n < sizeLine := by
  have e : sizeLine = 16777216 := by decide
  omega
theorem sze (n : Nat) (h : n < 1000) : n ≤ sizeLine := Nat.le_of_lt (sz n h)
/-! ### comprehensions -/
section
variable {J : It} {n : Nat} {G : Hp → Prop} {Y : Nat → Hp → V → Hp → Prop}
theorem lc_rel (w : Walk J n G Y) {α : Type} (l : List α) (hl : l.length = n) (hn : n < sizeLine) {g : TG} {te : TE} {vs : List Nat} {σ : L2.St} {H1 : Hp} {D : Addr} {Qd : Hp → Prop} (hD : H1 D = none) (hG : ∀ H, Ex H1 H → G H)
    (hY : ∀ i H x H', Y i H x H' → Ex H H') (R : α → V → Hp → Prop) (mono : ∀ j y H H', ExN H H' → R j y H → R j y H')
    (hs : ∀ i j x H H' (Qk : VK), l[i]? = some j → Ex H1 H → Y i H x H' → (∀ y H4, Ex H' H4 → R j y H4 → Qk y H4) → g x (wipe σ vs) H' fun σ2 H2 => wipe σ2 vs = wipe σ vs ∧ te σ2 H2 Qk)
    (hd : ∀ H ys, Ex H1 H → H D = some (.lst ys) → All2 R l ys H → Qd H) :
    ∃ W : Nat → Nat → Hp → Prop, (∃ m, W 0 m (upd H1 D (.lst []))) ∧ ∀ i m H, W i m H →
      (J.stop i H ∧ Qd H) ∨ (J.go i H ∧ ∃ Nx : Hp → Prop, (∀ H', Nx H' → ∃ m', m' < m ∧ W (i + 1) m' H') ∧ ∀ x H', J.yld i H x H' → g x (wipe σ vs) H' fun σ2 H2 => wipe σ2 vs = wipe σ vs ∧ tYes σ2 H2 fun b H3 =>
        if b = true then te σ2 H3 fun y H4 => ∃ acc, H4 D = some (.lst acc) ∧ acc.length < sizeLine ∧ Nx (upd H4 D (.lst (acc ++ [y]))) else Nx H3) := by
  subst hl
  refine lc_it w (fun i H => i ≤ l.length ∧ Ex H1 H ∧ ∃ ys, H D = some (.lst ys) ∧ All2 R (l.take i) ys H) ⟨Nat.zero_le _, Ex.new hD, [], upd_same, All2.nil⟩ (fun i H _ p => hG H p.2.1) (fun i x H H' hi p y => ?_) (fun H p => ?_)
  · obtain ⟨_, e, ys, hy, a2⟩ := p
    have hj : l[i]? = some l[i] := List.getElem?_eq_getElem hi
    have eY := hY _ _ _ _ y
    refine hs i _ x H H' _ hj e y fun y4 H4 e4 r => ?_
    have h4 : H4 D = some (.lst ys) := e4 _ _ (eY _ _ hy)
    have hlen : ys.length = i := by rw [a2.1, List.length_take]; omega
    refine ⟨ys, h4, by omega, hi, ((e.trans eY).trans e4).mut hD, _, upd_same, ?_⟩
    have en : ExN H4 (upd H4 D (.lst (ys ++ [y4]))) := ExN.upd h4
    have q : All2 R (l.take i) ys (upd H4 D (.lst (ys ++ [y4]))) := a2.mono fun j y r => mono _ _ _ _ ((ExN.of (eY.trans e4)).trans en) r
    rw [List.take_succ, hj]
    exact q.snoc (mono _ _ _ _ en r)
  · obtain ⟨_, e, ys, hy, a2⟩ := p
    rw [List.take_length] at a2
    exact hd H ys e hy a2
end
theorem YAt.ex {xs : List V} (i : Nat) (H : Hp) (x : V) (H' : Hp) (y : YAt xs i H x H') : Ex H H' := by
  obtain ⟨rfl, _⟩ := y
  exact Ex.refl _
theorem YFn.ex {f : Nat → V} (i : Nat) (H : Hp) (x : V) (H' : Hp) (y : YFn f i H x H') : Ex H H' := by
  obtain ⟨rfl, _⟩ := y
  exact Ex.refl _
theorem YPair.ex {f g : Nat → Option V} (i : Nat) (H : Hp) (x : V) (H' : Hp) (y : YPair f g i H x H') : Ex H H' := by
  obtain ⟨T, a, b, _, h, rfl, _⟩ := y
  exact Ex.new h
section
variable {K : PySem.W.Frag} {g : TG} {tl te : TE} {ta : TA} {vs : List Nat} {σ : L2.St} {H : Hp} {Q : VK}
/-- what is asked of a comprehension's block: items c j, j of l; each gives R -/
def Blk {α : Type} (l : List α) (c : α → V) (R : α → V → Hp → Prop) (g : TG) (te : TE) (vs : List Nat) (σ : L2.St) (H1 : Hp) : Prop :=
  (∀ j y H H', ExN H H' → R j y H → R j y H') ∧ ∀ j H (Qk : VK), j ∈ l → Ex H1 H → (∀ y H4, Ex H H4 → R j y H4 → Qk y H4) → g (c j) (wipe σ vs) H fun σ2 H2 => wipe σ2 vs = wipe σ vs ∧ te σ2 H2 Qk
/-- .. items pairs -/
def Blk2 {α : Type} (l : List α) (c d : α → V) (R : α → V → Hp → Prop) (g : TG) (te : TE) (vs : List Nat) (σ : L2.St) (H1 : Hp) : Prop :=
  (∀ j y H H', ExN H H' → R j y H → R j y H') ∧ ∀ j T H (Qk : VK), j ∈ l → Ex H1 H → H T = some (.tup [c j, d j]) → (∀ y H4, Ex H H4 → R j y H4 → Qk y H4) → g (.ref T) (wipe σ vs) H fun σ2 H2 => wipe σ2 vs = wipe σ vs ∧ te σ2 H2 Qk
theorem k_lc {wi : TI} {tt : TT} (h : wi σ H fun J H1 => ∀ D, H1 D = none → ∃ W : Nat → Nat → Hp → Prop, (∃ m, W 0 m (upd H1 D (.lst []))) ∧ ∀ i m H, W i m H →
  (J.stop i H ∧ Q (.ref D) H) ∨ (J.go i H ∧ ∃ Nx : Hp → Prop, (∀ H', Nx H' → ∃ m', m' < m ∧ W (i + 1) m' H') ∧ ∀ x H', J.yld i H x H' → g x (wipe σ vs) H' fun σ2 H2 => wipe σ2 vs = wipe σ vs ∧ tt σ2 H2 fun b H3 =>
    if b = true then te σ2 H3 fun y H4 => ∃ acc, H4 D = some (.lst acc) ∧ acc.length < sizeLine ∧ Nx (upd H4 D (.lst (acc ++ [y]))) else Nx H3)) : tLc wi g tt te vs σ H Q := h
theorem k_iT {R : It → Hp → Prop} (h : tl σ H fun x H1 => ∃ a, x = .ref a ∧ (∃ xs, SqT K H1 a xs) ∧ R (Itt K a) H1) : iTup K tl σ H R := h
theorem k_iL {R : It → Hp → Prop} (h : tl σ H fun x H1 => ∃ a, x = .ref a ∧ (∃ xs, SqL K H1 a xs) ∧ R (Itl K a) H1) : iList K tl σ H R := h
theorem k_iT2 {F : Addr → Prop} {a : Addr} {xs : List V} (h : SqT K H a xs) (q : F a) : ∃ a', V.ref a = .ref a' ∧ (∃ xs, SqT K H a' xs) ∧ F a' := ⟨a, rfl, ⟨xs, h⟩, q⟩
theorem k_iL2 {F : Addr → Prop} {a : Addr} {xs : List V} (h : SqL K H a xs) (q : F a) : ∃ a', V.ref a = .ref a' ∧ (∃ xs, SqL K H a' xs) ∧ F a' := ⟨a, rfl, ⟨xs, h⟩, q⟩
theorem k_i1 {R : It → Hp → Prop} (h : ta σ H fun xs H1 => ∃ j : Int, xs = [.int j] ∧ -(2 ^ 62) ≤ j ∧ j < 2 ^ 62 ∧ R (Itr 0 j.toNat) H1) : iRng1 ta σ H R := h
theorem k_i1a {F : Int → Prop} {j : Int} (hj : -(2 ^ 62) ≤ j ∧ j < 2 ^ 62) (q : F j) : ∃ j' : Int, [V.int j] = [.int j'] ∧ -(2 ^ 62) ≤ j' ∧ j' < 2 ^ 62 ∧ F j' := ⟨j, rfl, hj.1, hj.2, q⟩
theorem k_i2 {R : It → Hp → Prop} (h : ta σ H fun xs H1 => ∃ i j : Int, xs = [.int i, .int j] ∧ (-(2 ^ 62) ≤ i ∧ i < 2 ^ 62 ∧ -(2 ^ 62) ≤ j ∧ j < 2 ^ 62) ∧ R (Itr i (j - i).toNat) H1) : iRng2 ta σ H R := h
theorem k_i2a {F : Int → Int → Prop} {i j : Int} (hj : -(2 ^ 62) ≤ i ∧ i < 2 ^ 62 ∧ -(2 ^ 62) ≤ j ∧ j < 2 ^ 62) (q : F i j) : ∃ i' j' : Int, [V.int i, V.int j] = [.int i', .int j'] ∧ (-(2 ^ 62) ≤ i' ∧ i' < 2 ^ 62 ∧ -(2 ^ 62) ≤ j' ∧ j' < 2 ^ 62) ∧ F i' j' := ⟨i, j, rfl, hj, q⟩
theorem k_iZ {R : It → Hp → Prop} (h : ta σ H fun vs H1 => ∃ a b xs ys, vs = [.ref a, .ref b] ∧ ((SqL K H1 a xs ∧ SqL K H1 b ys ∧ R (Itz K a b) H1) ∨ (SqT K H1 a xs ∧ SqT K H1 b ys ∧ R (RZ.ItzT K a b) H1))) : RZ.iZipA K ta σ H R := h
theorem k_iZa {F G : Addr → Addr → Prop} {a b : Addr} {xs ys : List V} (h1 : SqT K H a xs) (h2 : SqT K H b ys) (q : G a b) : ∃ a' b' xs ys, [V.ref a, V.ref b] = [.ref a', .ref b'] ∧ ((SqL K H a' xs ∧ SqL K H b' ys ∧ F a' b') ∨ (SqT K H a' xs ∧ SqT K H b' ys ∧ G a' b')) :=
  ⟨a, b, xs, ys, rfl, .inr ⟨h1, h2, q⟩⟩
theorem k_iN {R : It → Hp → Prop} (h : tl σ H fun y H1 => ∃ t a b xs ys, y = V.ref t ∧ SqT K H1 t [.ref a, .ref b] ∧ SqT K H1 a xs ∧ SqT K H1 b ys ∧ R (MZ.ItN K a b) H1) : MZ.iZipS K tl σ H R := h
theorem k_iNa {F : Addr → Addr → Prop} {t a b : Addr} {xs ys : List V} (h0 : SqT K H t [.ref a, .ref b]) (h1 : SqT K H a xs) (h2 : SqT K H b ys) (q : F a b) : ∃ t' a b xs ys, V.ref t = V.ref t' ∧ SqT K H t' [.ref a, .ref b] ∧ SqT K H a xs ∧ SqT K H b ys ∧ F a b := ⟨t, a, b, xs, ys, rfl, h0, h1, h2, q⟩
/-- the goal that a comprehension leaves -/
abbrev LcGoal (J : It) (g : TG) (te : TE) (vs : List Nat) (σ : L2.St) (H1 : Hp) (Q : Addr → Hp → Prop) : Prop := ∀ D, H1 D = none → ∃ W : Nat → Nat → Hp → Prop, (∃ m, W 0 m (upd H1 D (.lst []))) ∧ ∀ i m H, W i m H →
  (J.stop i H ∧ Q D H) ∨ (J.go i H ∧ ∃ Nx : Hp → Prop, (∀ H', Nx H' → ∃ m', m' < m ∧ W (i + 1) m' H') ∧ ∀ x H', J.yld i H x H' → g x (wipe σ vs) H' fun σ2 H2 => wipe σ2 vs = wipe σ vs ∧ tYes σ2 H2 fun b H3 =>
    if b = true then te σ2 H3 fun y H4 => ∃ acc, H4 D = some (.lst acc) ∧ acc.length < sizeLine ∧ Nx (upd H4 D (.lst (acc ++ [y]))) else Nx H3)
variable {F : Addr → Hp → Prop} {α : Type} {c d : α → V} {R : α → V → Hp → Prop} {a b : Addr}
theorem lcT (l : List α) (hn : l.length < sizeLine) (hS : SqT K H a (l.map c)) (blk : Blk l c R g te vs σ H) (hd : ∀ D H' ys, H D = none → Ex H H' → H' D = some (.lst ys) → All2 R l ys H' → F D H') : LcGoal (Itt K a) g te vs σ H F := fun D hD =>
  lc_rel walk_tup l (by rw [List.length_map]) (by rw [List.length_map]; exact hn) hD (fun _ e => ex_t e hS) YAt.ex R blk.1 (fun i j x H1 H' Qk hj e y q => by
    obtain ⟨rfl, hx⟩ := y
    rw [List.getElem?_map, hj] at hx
    cases hx
    exact blk.2 j _ Qk (List.mem_of_getElem? hj) e q) fun H' ys e hy a2 => hd D H' ys hD e hy a2
theorem lcL (l : List α) (hn : l.length < sizeLine) (hS : SqL K H a (l.map c)) (blk : Blk l c R g te vs σ H) (hd : ∀ D H' ys, H D = none → Ex H H' → H' D = some (.lst ys) → All2 R l ys H' → F D H') : LcGoal (Itl K a) g te vs σ H F := fun D hD =>
  lc_rel walk_list l (by rw [List.length_map]) (by rw [List.length_map]; exact hn) hD (fun _ e => ex_l e hS) YAt.ex R blk.1 (fun i j x H1 H' Qk hj e y q => by
    obtain ⟨rfl, hx⟩ := y
    rw [List.getElem?_map, hj] at hx
    cases hx
    exact blk.2 j _ Qk (List.mem_of_getElem? hj) e q) fun H' ys e hy a2 => hd D H' ys hD e hy a2
theorem lcR {lo : Int} (n : Nat) (hn : n < sizeLine) {R : Nat → V → Hp → Prop} (blk : Blk (List.range n) (fun i : Nat => .int (lo + i)) R g te vs σ H) (hd : ∀ D H' ys, H D = none → Ex H H' → H' D = some (.lst ys) → All2 R (List.range n) ys H' → F D H') : LcGoal (Itr lo n) g te vs σ H F := fun D hD =>
  lc_rel walk_range (List.range n) List.length_range hn hD (fun _ _ => trivial) YFn.ex R blk.1 (fun i j x H1 H' Qk hj e y q => by
    obtain ⟨rfl, rfl⟩ := y
    have hi : i < n := by
      have := (List.getElem?_eq_some_iff.mp hj).1
      rwa [List.length_range] at this
    rw [List.getElem?_range hi] at hj
    cases hj
    exact blk.2 i _ Qk (List.mem_range.mpr hi) e q) fun H' ys e hy a2 => hd D H' ys hD e hy a2
theorem walk_zipN {xs ys : List V} (hl : xs.length = ys.length) : Walk (MZ.ItN K a b) xs.length (fun H => SqT K H a xs ∧ SqT K H b ys) (YPair (fun i => xs[i]?) (fun i => ys[i]?)) := by
  refine ⟨fun i _ hi q => ?_, fun _ q => ⟨xs, ys, q.1, q.2, Nat.le_refl _⟩, fun i H v H' _ q y => ?_⟩
  · exact ⟨xs, ys, _, _, q.1, q.2, List.getElem?_eq_getElem hi, List.getElem?_eq_getElem (by omega)⟩
  · obtain ⟨T, x, y, h1, h2, h3, h4, h5⟩ := y
    exact ⟨T, x, y, h1, h2, h3, h4 xs q.1, h5 ys q.2⟩
theorem walk_zipT {xs ys : List V} (hl : xs.length = ys.length) : Walk (RZ.ItzT K a b) xs.length (fun H => SqT K H a xs ∧ SqT K H b ys) (YPair (fun i => xs[i]?) (fun i => ys[i]?)) := by
  refine ⟨fun i _ hi q => ?_, fun _ q => ⟨xs, ys, q.1, q.2, Or.inl (Nat.le_refl _)⟩, fun i H v H' _ q y => ?_⟩
  · exact ⟨xs, ys, _, _, q.1, q.2, List.getElem?_eq_getElem hi, List.getElem?_eq_getElem (by omega)⟩
  · obtain ⟨T, x, y, h1, h2, h3, h4, h5⟩ := y
    exact ⟨T, x, y, h1, h2, h3, h4 xs q.1, h5 ys q.2⟩
theorem lcN (l : List α) (hn : l.length < sizeLine) (h1 : SqT K H a (l.map c)) (h2 : SqT K H b (l.map d)) (blk : Blk2 l c d R g te vs σ H) (hd : ∀ D H' ys, H D = none → Ex H H' → H' D = some (.lst ys) → All2 R l ys H' → F D H') : LcGoal (MZ.ItN K a b) g te vs σ H F := fun D hD =>
  lc_rel (walk_zipN (by rw [List.length_map, List.length_map])) l (by rw [List.length_map]) (by rw [List.length_map]; exact hn) hD (fun _ e => ⟨ex_t e h1, ex_t e h2⟩) YPair.ex R blk.1 (fun i j x H1 H' Qk hj e y q => by
    obtain ⟨T, x, y, rfl, hT, rfl, hx, hy⟩ := y
    have hx : (l.map c)[i]? = some x := hx
    have hy : (l.map d)[i]? = some y := hy
    rw [List.getElem?_map, hj] at hx hy
    cases hx
    cases hy
    exact blk.2 j T _ Qk (List.mem_of_getElem? hj) (e.trans (Ex.new hT)) upd_same q) fun H' ys e hy a2 => hd D H' ys hD e hy a2
theorem lcZ (l : List α) (hn : l.length < sizeLine) (h1 : SqT K H a (l.map c)) (h2 : SqT K H b (l.map d)) (blk : Blk2 l c d R g te vs σ H) (hd : ∀ D H' ys, H D = none → Ex H H' → H' D = some (.lst ys) → All2 R l ys H' → F D H') : LcGoal (RZ.ItzT K a b) g te vs σ H F := fun D hD =>
  lc_rel (walk_zipT (by rw [List.length_map, List.length_map])) l (by rw [List.length_map]) (by rw [List.length_map]; exact hn) hD (fun _ e => ⟨ex_t e h1, ex_t e h2⟩) YPair.ex R blk.1 (fun i j x H1 H' Qk hj e y q => by
    obtain ⟨T, x, y, rfl, hT, rfl, hx, hy⟩ := y
    have hx : (l.map c)[i]? = some x := hx
    have hy : (l.map d)[i]? = some y := hy
    rw [List.getElem?_map, hj] at hx hy
    cases hx
    cases hy
    exact blk.2 j T _ Qk (List.mem_of_getElem? hj) (e.trans (Ex.new hT)) upd_same q) fun H' ys e hy a2 => hd D H' ys hD e hy a2
theorem wcons {g : TG} {te : TE} {v : V} {σ σ0 : L2.St} {H : Hp} {vs : List Nat} {Qk : VK} (h : g v σ H fun σ2 H2 => wipe σ2 vs = σ0 ∧ te σ2 H2 Qk) : g v σ H fun σ2 H2 => wipe σ2 vs = σ0 ∧ te σ2 H2 Qk := h
/-! ### built-ins over lists -/
theorem k_all {p : Addr} (bs : List Bool) (h : SqL K H p (bs.map V.bl)) (q : Q (.bl (bs.all id)) H) : rAll K [.ref p] H Q := ⟨p, bs, rfl, h, q⟩
theorem k_all1 {β : Type} {p : Addr} (l : List β) (h : SqL K H p (l.map fun _ => V.bl true)) (q : Q (.bl true) H) : rAll K [.ref p] H Q := ⟨p, l.map fun _ => true, rfl, by rw [List.map_map]; exact h, by
  have e : (l.map fun _ => true).all id = true := List.all_eq_true.mpr fun x hx => by
    obtain ⟨_, _, rfl⟩ := List.mem_map.mp hx
    rfl
  rw [e]
  exact q⟩
theorem k_sum {p : Addr} (ns : List Int) (h : SqL K H p (ns.map V.int)) (q : Q (.int ns.sum) H) : rSum K [.ref p] H Q := ⟨p, ns, rfl, h, q⟩
theorem k_sumT {p : Addr} (ns : List Int) (h : SqL K H p (ns.map V.int)) (q : Q (.int ns.sum) H) : rSum K [.ref p] H Q := ⟨p, ns, rfl, h, q⟩
def rTupOf (K : PySem.W.Frag) : List V → Hp → VK → Prop := fun xs H Q => ∃ p ys, xs = [.ref p] ∧ ((SqL K H p ys ∧ ∀ l, H l = none → Q (.ref l) (upd H l (.tup ys))) ∨ (SqT K H p ys ∧ Q (.ref p) H))
theorem c_tuple1 {X : Cx} : CallR X (.type "tuple") (rTupOf X.K) := call_tuple_of
def rLstOf (K : PySem.W.Frag) : List V → Hp → VK → Prop := fun xs H Q => ∃ p ys, xs = [.ref p] ∧ (SqL K H p ys ∨ SqT K H p ys) ∧ ∀ l, H l = none → Q (.ref l) (upd H l (.lst ys))
theorem c_list1 {X : Cx} : CallR X (.type "list") (rLstOf X.K) := call_list_of
theorem k_tupL {p : Addr} {ys : List V} (h : SqL K H p ys) (q : ∀ (l : Addr) (H' : Hp), H l = none → Ex H H' → H' l = some (.tup ys) → Q (.ref l) H') : rTupOf K [.ref p] H Q := ⟨p, ys, rfl, .inl ⟨h, fun l hl => q l _ hl (Ex.new hl) upd_same⟩⟩
theorem k_tupT {p : Addr} {ys : List V} (h : SqT K H p ys) (q : Q (.ref p) H) : rTupOf K [.ref p] H Q := ⟨p, ys, rfl, .inr ⟨h, q⟩⟩
theorem k_lstL {p : Addr} {ys : List V} (h : SqL K H p ys) (q : ∀ (l : Addr) (H' : Hp), H l = none → Ex H H' → H' l = some (.lst ys) → Q (.ref l) H') : rLstOf K [.ref p] H Q := ⟨p, ys, rfl, .inl h, fun l hl => q l _ hl (Ex.new hl) upd_same⟩
end
end M
namespace M
open PySem PySem.Spec PyProof.Rows L2 Evl
/-! ### breaks as the package tells them -/
def Br.w1 : Br → Str
  | .inn => "inner"
  | .lf => "light"
  | .ls => "light"
  | .ff => "far"
  | .fs => "far"
  | .tf => "top"
  | .ts => "top"
def Br.w2 : Br → Str
  | .inn => "none"
  | .lf => "first"
  | .ls => "second"
  | .ff => "first"
  | .fs => "second"
  | .tf => "first"
  | .ts => "second"
abbrev Br.vs (b : Br) : List V := [.str b.w1, .str b.w2]
def Br.d (b : Br) : PyData := .tuple [.str b.w1, .str b.w2]
def dS (pt : Bool) : Str := if pt then "put" else "take"
theorem Br.shaped (b : Br) : SeqAt.shaped b.d = true := by cases b <;> decide +kernel
theorem Br.eqv (b c : Br) : PyData.eqv b.d c.d = decide (b = c) := by cases b <;> cases c <;> decide +kernel
/-- none, or what is told -/
def TO (K : PySem.W.Frag) (H : Hp) (v : V) : Option Br → Prop
  | none => v = .non
  | some b => ∃ a, v = .ref a ∧ SqT K H a b.vs
theorem TO.mono {K : PySem.W.Frag} {H H' : Hp} {v : V} {o : Option Br} (e : ExN H H') (h : TO K H v o) : TO K H' v o := by
  cases o with
  | none => exact h
  | some b =>
    obtain ⟨a, ea, h⟩ := h
    exact ⟨a, ea, e.t h⟩
def oD : Option Br → PyData
  | none => .none
  | some b => b.d
section
variable {X : Cx} {K : PySem.W.Frag} {H : Hp} {Q : VK}
theorem Dp.br {a : Addr} {b : Br} (h : SqT K H a b.vs) : Dp K H (.ref a) b.d := .tup h (.cons (.str _) (.cons (.str _) .nil))
theorem TO.dp {v : V} {o : Option Br} (h : TO K H v o) : Dp K H v (oD o) := by
  cases o with
  | none =>
    obtain rfl : v = .non := h
    exact .non
  | some b =>
    obtain ⟨a, rfl, h⟩ := h
    exact Dp.br h
theorem k_eqB {a a' : Addr} {b : Br} (b' : Br) {xs : List V} (h : SqT K H a b.vs) (h' : SqT K H a' xs) (e : xs = b'.vs) (q : Q (.bl (decide (b = b'))) H) : rEqD K (.ref a) (.ref a') H Q := by
  subst e
  refine ⟨_, _, Dp.br h, Dp.br h', b.shaped, b'.shaped, ?_⟩
  rw [Br.eqv]
  exact q
def rInT (K : PySem.W.Frag) : R2 := fun x y H Q => ∃ d ds, Dp K H x d ∧ Dp K H y (.tuple ds) ∧ SeqAt.shaped d = true ∧ SeqAt.shaped (.tuple ds) = true ∧ Q (.bl (ds.any fun z => PyData.eqv z d)) H
theorem op_inT (hu : X.A.units + 65 < cLine) : OpR X (compareOp .In) (rInT X.K) := by
  intro pins s σ H x y v u Q I rx ry h
  obtain ⟨d, ds, hd, he, sd, se, q⟩ := h
  obtain ⟨_, c1⟩ := Dp.reads I d x v hd rx
  obtain ⟨_, c2⟩ := Dp.reads I (.tuple ds) y u he ry
  exact SeqAt.in_tuple_reads c2 c1 (SeqAt.canLay_of_shaped se) (SeqAt.canLay_of_shaped sd) (room_in_shaped sd hu) ⟨.bl _, H, I, rfl, q⟩
theorem k_inSm {a t p1 p2 p3 : Addr} {b : Br} {x1 x2 x3 : List V} (h : SqT K H a b.vs) (ht : SqT K H t [.ref p1, .ref p2, .ref p3]) (h1 : SqT K H p1 x1) (h2 : SqT K H p2 x2) (h3 : SqT K H p3 x3) (e1 : x1 = Br.lf.vs) (e2 : x2 = Br.fs.vs) (e3 : x3 = Br.ts.vs)
    (q : Q (.bl (small b)) H) : rInT K (.ref a) (.ref t) H Q := by
  subst e1 e2 e3
  refine ⟨_, _, Dp.br h, .tup ht (.cons (Dp.br h1) (.cons (Dp.br h2) (.cons (Dp.br h3) .nil))), b.shaped, by decide +kernel, ?_⟩
  have e : ([Br.lf.d, Br.fs.d, Br.ts.d].any fun z => PyData.eqv z b.d) = small b := by cases b <;> decide +kernel
  rw [e]
  exact q
/-- isinstance(x, (list, tuple)) -/
theorem k_isiLT {a tp : Addr} {xs : List V} (h : SqT K H a xs) (ht : H tp = some (.tup [.ty "list", .ty "tuple"])) (q : Q (.bl true) H) : rIsiT K [.ref a, .ref tp] H Q := by
  have e : PySem.W.kitAny K (.type "tuple") [.type "list", .type "tuple"] = some true := by
    have h1 : PySem.W.kitOne K (.type "tuple") (.type "list") = some false := kit_ty (by decide +kernel)
    unfold PySem.W.kitAny
    simp only [h1, kit_tuple_tuple, PySem.W.kitAny]
  have p : Paired ClsV [.ty "list", .ty "tuple"] [.type "list", .type "tuple"] := .cons (.ty _) (.cons (.ty _) .nil)
  rcases h with (h | ⟨o, h⟩) | ⟨o, its, n, h1, h2, _⟩
  · exact ⟨_, _, _, _, _, _, rfl, ht, p, .base (.tup h), e, q⟩
  · exact ⟨_, _, _, _, _, _, rfl, ht, p, .fTuple h, e, q⟩
  · exact ⟨_, _, _, _, _, _, rfl, ht, p, .kTuple h1 h2, e, q⟩
theorem k_notInDeeds {a : Addr} {pt : Bool} (h : SqT K H a [.str "put", .str "take"]) (q : Q (.bl false) H) : rIn K true (.str (dS pt)) (.ref a) H Q := by
  refine ⟨a, _, rfl, .inr h, rfl, rfl, ?_⟩
  have e : inV (.str (dS pt)) [.str "put", .str "take"] = true := by cases pt <;> decide +kernel
  simp only [e]
  exact q
theorem k_eqPut {pt : Bool} (q : Q (.bl pt) H) : rEq (.str (dS pt)) (.str "put") H Q := ⟨rfl, by
  have e : decide (V.str (dS pt) = V.str "put") = pt := by cases pt <;> decide +kernel
  rw [e]
  exact q⟩
end
/-! ### rules -/
def rC (K : PySem.W.Frag) (R : Rl) : Addr := if R.turn.isSome then He.ga K "TurnRule" else He.ga K "TryRule"
structure RB (K : PySem.W.Frag) (H : Hp) (a : Addr) (R : Rl) : Prop where
  t : ∃ tp, Fld K H a "times" (.ref tp) ∧ SqT K H tp [.int R.p, .int R.q]
  k : Fld K H a "plus" (.int R.k)
structure RuleI (K : PySem.W.Frag) (H : Hp) (a : Addr) (R : Rl) : Prop where
  ok : R.Ok
  c : ∃ dx fs, H a = some (.ins (rC K R) dx fs)
  b : Ins H a (rC K R) "beside"
  g : Ins H a (rC K R) "greatest"
  rb : RB K H a R
  tn : ∀ t s r, R.turn = some (t, s, r) → (∃ tt, Fld K H a "turn" (.ref tt) ∧ SqT K H tt [.int t, .int s]) ∧ Fld K H a "turn_plus" (.int r)
section
variable {K : PySem.W.Frag} {mg : Str → Option Value} {H H' : Hp} {a : Addr} {R : Rl} {Q : VK}
theorem RB.monoN (e : ExN H H') (h : RB K H a R) : RB K H' a R :=
  let ⟨tp, h1, h2⟩ := h.t
  ⟨⟨tp, e.fld h1, e.t h2⟩, e.fld h.k⟩
theorem RB.mono (e : Ex H H') (h : RB K H a R) : RB K H' a R := h.monoN (.of e)
theorem RuleI.monoN (e : ExN H H') (h : RuleI K H a R) : RuleI K H' a R where
  ok := h.ok
  c := let ⟨dx, fs, q⟩ := h.c; ⟨dx, fs, e _ _ (fun l z => by cases z) q⟩
  b := e.ins h.b
  g := e.ins h.g
  rb := h.rb.monoN e
  tn := fun t s r q => let ⟨⟨tt, h1, h2⟩, h3⟩ := h.tn t s r q; ⟨⟨tt, e.fld h1, e.t h2⟩, e.fld h3⟩
theorem RuleI.mono (e : Ex H H') (h : RuleI K H a R) : RuleI K H' a R := h.monoN (.of e)
theorem TX.c_R (T : TX K mg) (R : Rl) : Cls K (rC K R) := by
  unfold rC
  split
  · exact T.c_TurnRule
  · exact T.c_TryRule
theorem TX.ty_R (T : TX K mg) (R : Rl) : TyI K (rC K R) := by
  unfold rC
  split
  · exact T.ty_TurnRule
  · exact T.ty_TryRule
theorem TX.m_R_beside (T : TX K mg) (R : Rl) : Meth K (rC K R) "beside" (He.ma K (He.ga K "WeightRule") "beside") := by
  unfold rC
  split
  · exact T.m_TurnRule_beside
  · exact T.m_TryRule_beside
theorem TX.m_R_greatest (T : TX K mg) (R : Rl) : Meth K (rC K R) "greatest" (He.ma K (He.ga K "WeightRule") "greatest") := by
  unfold rC
  split
  · exact T.m_TurnRule_greatest
  · exact T.m_TryRule_greatest
theorem k_isiW (T : TX K mg) (h : RuleI K H a R) (q : Q (.bl true) H) : rIsi K [.ref a, .ref (He.ga K "WeightRule")] H Q := by
  obtain ⟨dx, fs, e⟩ := h.c
  refine k_isi_own e (T.c_R R) (T.ty_R R) ?_ q
  unfold rC
  split
  · exact T.k_TurnRule_WeightRule
  · exact T.k_TryRule_WeightRule
theorem k_isiT (T : TX K mg) (h : RuleI K H a R) (q : Q (.bl R.turn.isSome) H) : rIsi K [.ref a, .ref (He.ga K "TurnRule")] H Q := by
  obtain ⟨dx, fs, e⟩ := h.c
  refine k_isi_own (b := R.turn.isSome) e (T.c_R R) (T.ty_R R) ?_ q
  unfold rC
  cases R.turn with
  | some x => exact T.k_TurnRule_TurnRule
  | none => exact T.k_TryRule_TurnRule
end
/-! ### cases -/
structure CaseAt (K : PySem.W.Frag) (H : Hp) (a : Addr) (pt : Bool) (o w : Option Br) : Prop where
  c : ∃ dx fs, H a = some (.ins (He.ga K "Case") dx fs)
  d : Fld K H a "deed" (.str (dS pt))
  o : ∃ v, Fld K H a "once" v ∧ TO K H v o
  w : ∃ v, Fld K H a "twice" v ∧ TO K H v w
section
variable {K : PySem.W.Frag} {mg : Str → Option Value} {H H' : Hp} {a : Addr} {pt : Bool} {o w : Option Br} {Q : VK}
theorem CaseAt.monoN (e : ExN H H') (h : CaseAt K H a pt o w) : CaseAt K H' a pt o w where
  c := let ⟨dx, fs, q⟩ := h.c; ⟨dx, fs, e _ _ (fun l z => by cases z) q⟩
  d := e.fld h.d
  o := let ⟨v, h1, h2⟩ := h.o; ⟨v, e.fld h1, h2.mono e⟩
  w := let ⟨v, h1, h2⟩ := h.w; ⟨v, e.fld h1, h2.mono e⟩
theorem CaseAt.mono (e : Ex H H') (h : CaseAt K H a pt o w) : CaseAt K H' a pt o w := h.monoN (.of e)
theorem k_isiC (T : TX K mg) (h : CaseAt K H a pt o w) (q : Q (.bl true) H) : rIsi K [.ref a, .ref (He.ga K "Case")] H Q := by
  obtain ⟨dx, fs, e⟩ := h.c
  exact k_isi_own e T.c_Case T.ty_Case T.k_Case_Case q
theorem k_isN_TO {v : V} {o : Option Br} (h : TO K H v o) (q : Q (.bl o.isNone) H) : rIsN v .non H Q := by
  refine ⟨rfl, ?_⟩
  cases o with
  | none =>
    obtain rfl : v = .non := h
    exact q
  | some b =>
    obtain ⟨a, rfl, _⟩ := h
    exact q
theorem k_notN_TO {v : V} {o : Option Br} (h : TO K H v o) (q : Q (.bl o.isSome) H) : rNotN v .non H Q := by
  refine ⟨rfl, ?_⟩
  cases o with
  | none =>
    obtain rfl : v = .non := h
    exact q
  | some b =>
    obtain ⟨a, rfl, _⟩ := h
    exact q
end
section
variable {K : PySem.W.Frag} {mg : Str → Option Value} {H : Hp}
theorem kn_most (T : TX K mg) : ∃ mc u, ClX.CRead K (He.ga K "WeightRule") mc ∧ ClX.CVal K (He.ga K "WeightRule") mc "MOST" (.int 6) u := T.most
theorem kn_DEEDS (T : TX K mg) : SqT K H (He.ga K "DEEDS") [.str "put", .str "take"] := T.t_DEEDS H
theorem kn_INNER (T : TX K mg) : SqT K H (He.ga K "INNER") Br.inn.vs := T.t_INNER H
def onceL : List Br := [.lf, .ls, .tf, .ts]
def twiceL : List Br := [.inn, .lf, .ls, .ff, .fs, .tf, .ts]
def onceA (K : PySem.W.Frag) : Br → Addr
  | .lf => tAt K (He.ga K "ONCE") 0
  | .ls => tAt K (He.ga K "ONCE") 1
  | .tf => tAt K (He.ga K "ONCE") 2
  | _ => tAt K (He.ga K "ONCE") 3
def twiceA (K : PySem.W.Frag) : Br → Addr
  | .inn => tAt K (He.ga K "TWICE") 0
  | .lf => tAt K (He.ga K "TWICE") 1
  | .ls => tAt K (He.ga K "TWICE") 2
  | .ff => tAt K (He.ga K "TWICE") 3
  | .fs => tAt K (He.ga K "TWICE") 4
  | .tf => tAt K (He.ga K "TWICE") 5
  | .ts => tAt K (He.ga K "TWICE") 6
theorem kn_ONCE (T : TX K mg) : SqT K H (He.ga K "ONCE") (onceL.map fun b => V.ref (onceA K b)) := T.t_ONCE H
theorem kn_TWICE (T : TX K mg) : SqT K H (He.ga K "TWICE") (twiceL.map fun b => V.ref (twiceA K b)) := T.t_TWICE H
theorem kn_once1 (T : TX K mg) {b : Br} (h : b ∈ onceL) : SqT K H (onceA K b) b.vs := by
  simp only [onceL, List.mem_cons, List.not_mem_nil, or_false] at h
  rcases h with rfl | rfl | rfl | rfl
  · exact T.t_ONCE0 H
  · exact T.t_ONCE1 H
  · exact T.t_ONCE2 H
  · exact T.t_ONCE3 H
theorem kn_twice1 (T : TX K mg) (b : Br) : SqT K H (twiceA K b) b.vs := by
  cases b
  · exact T.t_TWICE0 H
  · exact T.t_TWICE1 H
  · exact T.t_TWICE2 H
  · exact T.t_TWICE3 H
  · exact T.t_TWICE4 H
  · exact T.t_TWICE5 H
  · exact T.t_TWICE6 H
end
end M
namespace M
open PySem PySem.Spec PyProof.Rows L2 Evl
local macro_rules | `(tactic| walk_at "ar") => `(tactic| first | exact rfl | omega | (simp only [List.length_map, List.length_cons, List.length_nil] at *; omega) | decide)
local macro_rules | `(tactic| walk_at "ex") => `(tactic| first | with_reducible assumption | exact Ex.refl _ | (refine' Ex.trans ?a ?b; (case b => with_reducible assumption); (case a => walk_at "ex")))
local macro_rules | `(tactic| walk_at "exn") => `(tactic| first | with_reducible assumption | exact ExN.refl _ | (refine' ExN.trans ?a (ExN.of ?b); (case b => with_reducible assumption); (case a => walk_at "exn")) | (refine' ExN.trans ?a ?b; (case b => with_reducible assumption); (case a => walk_at "exn")))
local macro_rules | `(tactic| walk_at "ln") => `(tactic| first | exact rfl | omega | (simp only [scaleF, addF, List.length_map, List.length_zip, List.length_cons, List.length_nil] <;> omega))
local macro_rules | `(tactic| walk_at "kn") => `(tactic| first
  | with_reducible assumption
  | ((with_reducible refine' Fld.mono ?e ?m); (case e => with_reducible assumption); (case m => walk_at "kn"))
  | ((with_reducible refine' Ins.mono ?e ?m); (case e => with_reducible assumption); (case m => walk_at "kn"))
  | ((with_reducible refine' SqT.of ?m); (case m => walk_at "kn"))
  | ((with_reducible refine' SqL.of ?m); (case m => walk_at "kn"))
  | with_reducible exact kn_DEEDS (by assumption)
  | with_reducible exact kn_INNER (by assumption)
  | with_reducible exact kn_ONCE (by assumption)
  | with_reducible exact kn_TWICE (by assumption)
  | ((with_reducible refine' RB.mono ?e ?m); (case e => with_reducible assumption); (case m => walk_at "kn"))
  | ((with_reducible refine' RuleI.mono ?e ?m); (case e => with_reducible assumption); (case m => walk_at "kn"))
  | ((with_reducible refine' TestAt.mono ?e ?m); (case e => with_reducible assumption); (case m => walk_at "kn"))
  | ((with_reducible refine' TO_mono ?e ?m); (case e => with_reducible assumption); (case m => walk_at "kn"))
  | ((with_reducible refine' CaseAt.mono ?e ?m); (case e => with_reducible assumption); (case m => walk_at "kn"))
  | ((with_reducible refine' ExN.t ?e ?m); (case e => with_reducible assumption); (case m => walk_at "kn"))
  | ((with_reducible refine' ex_t ?e ?m); (case e => with_reducible assumption); (case m => walk_at "kn"))
  | ((with_reducible refine' ex_l ?e ?m); (case e => with_reducible assumption); (case m => walk_at "kn"))
  | ((with_reducible refine' Ex.at ?e ?m); (case e => with_reducible assumption); (case m => walk_at "kn"))
  | ((with_reducible refine' Mu.t ?e ?n ?m); (case e => with_reducible assumption); (case n => with_reducible assumption); (case m => walk_at "kn"))
  | ((with_reducible refine' Mu.lst ?e ?n ?m); (case e => with_reducible assumption); (case n => with_reducible assumption); (case m => walk_at "kn"))
  | ((with_reducible refine' Mu.fld ?e ?n ?m); (case e => with_reducible assumption); (case n => with_reducible assumption); (case m => walk_at "kn")))
local macro_rules | `(tactic| walk_at "st") => `(tactic| first
  | with_reducible refine k_seq ?_
  | with_reducible refine k_asg ?_
  | with_reducible refine k_ret ?_
  | with_reducible refine k_drop ?_
  | with_reducible refine k_ifS ?_
  | with_reducible refine k_name ?_
  | with_reducible refine k_next ?_
  | ((with_reducible refine' k_var ?hv ?_); case hv => exact rfl)
  | with_reducible refine k_c ?_
  | with_reducible refine k_fld ?_
  | ((with_reducible refine' k_fld2 ?hv ?_); case hv => walk_at "kn")
  | with_reducible refine k_op ?_
  | with_reducible refine k_un ?_
  | with_reducible refine k_add ?_
  | with_reducible refine k_sub ?_
  | with_reducible refine k_neg ?_
  | ((with_reducible refine' k_mul ?hv ?_); case hv => first | (left; constructor <;> omega) | (right; constructor <;> omega))
  | ((with_reducible refine' k_fdiv ?hv ?_); case hv => constructor <;> omega)
  | ((with_reducible refine' k_mod ?hv ?_); case hv => omega)
  | with_reducible refine k_lt ?_
  | with_reducible refine k_le ?_
  | with_reducible refine k_gt ?_
  | with_reducible refine k_ge ?_
  | with_reducible refine k_eqI ?_
  | with_reducible refine k_eqT ?_
  | with_reducible refine k_neI ?_
  | with_reducible refine k_isN_int ?_
  | with_reducible refine k_isN_ref ?_
  | with_reducible refine k_isN_non ?_
  | with_reducible refine k_notN_int ?_
  | with_reducible refine k_notN_ref ?_
  | with_reducible refine k_notN_non ?_
  | with_reducible refine k_test ?_
  | with_reducible refine k_B ?_
  | with_reducible refine k_bx ?_
  | with_reducible refine k_not ?_
  | with_reducible refine k_notV ?_
  | with_reducible refine k_and ?_
  | with_reducible refine k_or ?_
  | with_reducible refine k_andV ?_
  | with_reducible refine k_orV ?_
  | with_reducible refine k_if ?_
  | with_reducible refine k_chain ?_
  | with_reducible refine iteT ?_
  | with_reducible refine iteF ?_
  | with_reducible refine k_nil ?_
  | with_reducible refine k_cons ?_
  | with_reducible refine k_tup ?_
  | with_reducible refine k_lst ?_
  | with_reducible refine k_call ?_
  | with_reducible refine k_meth ?_
  | ((with_reducible refine' k_meth2 ?hv ?_); case hv => walk_at "kn")
  | with_reducible refine k_make ?_
  | with_reducible refine k_cb ?_
  | with_reducible refine k_min2 ?_
  | with_reducible refine k_max2 ?_
  | with_reducible refine k_int1 ?_
  | with_reducible refine k_int1b ?_
  | with_reducible refine k_abs1 ?_
  | ((with_reducible refine' k_gtup ?hv ?hw ?_); (case hv => walk_at "kn"); (case hw => rfl))
  | with_reducible refine k_gcons ?_
  | with_reducible refine k_gnil ?_
  | with_reducible refine k_isi_ii ?_
  | with_reducible refine k_isi_ib ?_
  | with_reducible refine k_isi_ss ?_
  | ((with_reducible refine' k_isi_tt ?hv ?_); case hv => walk_at "kn")
  | with_reducible refine iteNT ?_
  | with_reducible refine iteNF ?_
  | with_reducible refine k_cval ?_
  | ((with_reducible refine' k_cval2 ?hv ?_); case hv => exact kn_most (by assumption))
  | with_reducible refine k_lc ?_
  | with_reducible refine k_iT ?_
  | ((with_reducible refine' k_iT2 ?hv ?_); case hv => walk_at "kn")
  | with_reducible refine k_iL ?_
  | ((with_reducible refine' k_iL2 ?hv ?_); case hv => walk_at "kn")
  | with_reducible refine k_i1 ?_
  | ((with_reducible refine' k_i1a ?hv ?_); case hv => constructor <;> omega)
  | with_reducible refine k_i2 ?_
  | ((with_reducible refine' k_i2a ?hv ?_); case hv => refine ⟨?_, ?_, ?_, ?_⟩ <;> omega)
  | with_reducible refine k_iZ ?_
  | ((with_reducible refine' k_iZa ?hv ?hw ?_); (case hv => walk_at "kn"); (case hw => walk_at "kn"))
  | with_reducible refine k_iN ?_
  | ((with_reducible refine' k_lenT ?hv ?_); case hv => walk_at "kn")
  | ((with_reducible refine' k_lenL ?hv ?_); case hv => walk_at "kn")
  | ((with_reducible refine' k_ixT ?hv ?hw ?_); (case hv => walk_at "kn"); (case hw => rfl))
  | ((with_reducible refine' k_tupL ?hv ?_); (case hv => walk_at "kn"); (refine' fun _ _ _ _ _ => ?_))
  | ((with_reducible refine' k_tupT ?hv ?_); (case hv => walk_at "kn"))
  | ((with_reducible refine' k_new ?hv ?_); (case hv => (simp only [List.length_cons, List.length_nil]; exact sze _ (by omega))); (refine' fun _ _ _ _ _ => ?_))
  | ((with_reducible refine' k_isiW ?hT ?hv ?_); (case hT => assumption); (case hv => walk_at "kn"))
  | ((with_reducible refine' k_isiT ?hT ?hv ?_); (case hT => assumption); (case hv => walk_at "kn"))
  | ((with_reducible refine' k_isiC ?hT ?hv ?_); (case hT => assumption); (case hv => walk_at "kn"))
  | ((with_reducible refine' k_isiLT ?hv ?hw ?_); (case hv => walk_at "kn"); (case hw => walk_at "kn"))
  | ((with_reducible refine' k_isN_TO ?hv ?_); (case hv => walk_at "kn"))
  | ((with_reducible refine' k_notN_TO ?hv ?_); (case hv => walk_at "kn"))
  | ((with_reducible refine' k_notInDeeds ?hv ?_); (case hv => walk_at "kn"))
  | with_reducible refine k_eqPut ?_
  | ((refine' k_eqB .inn ?hv ?hw ?hx ?_); (case hv => walk_at "kn"); (case hw => walk_at "kn"); (case hx => rfl))
  | ((refine' k_eqB .lf ?hv ?hw ?hx ?_); (case hv => walk_at "kn"); (case hw => walk_at "kn"); (case hx => rfl))
  | ((refine' k_eqB .ls ?hv ?hw ?hx ?_); (case hv => walk_at "kn"); (case hw => walk_at "kn"); (case hx => rfl))
  | ((refine' k_eqB .ff ?hv ?hw ?hx ?_); (case hv => walk_at "kn"); (case hw => walk_at "kn"); (case hx => rfl))
  | ((refine' k_eqB .fs ?hv ?hw ?hx ?_); (case hv => walk_at "kn"); (case hw => walk_at "kn"); (case hx => rfl))
  | ((refine' k_eqB .tf ?hv ?hw ?hx ?_); (case hv => walk_at "kn"); (case hw => walk_at "kn"); (case hx => rfl))
  | ((with_reducible refine' k_yes ?hv ?_); (case hv => walk_at "ar"))
  | ((with_reducible refine' k_no ?hv ?_); (case hv => walk_at "ar"))
  | ((with_reducible refine' k_nyes ?hv ?_); (case hv => walk_at "ar"))
  | ((with_reducible refine' k_nno ?hv ?_); (case hv => walk_at "ar"))
  | with_reducible refine k_sfld ?_
  | ((with_reducible refine' k_ixL ?hv ?hw ?_); (case hv => walk_at "kn"); (case hw => rfl))
  | ((with_reducible refine' k_sumTu _ ?hv ?_); (case hv => walk_at "kn"))
)
local macro_rules | `(tactic| walk_at "go") => `(tactic| repeat (walk_at "st"))
local macro_rules | `(tactic| walk_at "run") => `(tactic| (dsimp only [cxK]; walk_at "go"))

section
variable {P : Program} {w : World} {K : PySem.W.Frag} {mg : Str → Option Value} {base : Heap}
/-! is_integer -/
def sp_is_integer (K : PySem.W.Frag) : Sp := SV (fun i : Int => [.int i]) (fun _ _ => True) fun _ => .bl true
theorem ok_is_integer (T : TX K mg) : Ok P w K mg base 1 (He.ga K "is_integer") ["value"] (sp_is_integer K) := by
  obtain ⟨fd, F⟩ := T.F_is_integer
  refine ⟨fd, okN F sc_is_integer (by first | exact SV.len (fun _ => rfl) | exact PR.len (fun _ => rfl) | exact SJ.len (fun _ => rfl) | exact spEqB_len) (fun cdv A outer s H vs Q E hr h => ?_), F.bindsN (fun _ _ _ _ _ _ us hl => match us, hl with | [_], _ => rfl), F.kp⟩
  obtain ⟨i, rfl, -, q⟩ := h
  refine ⟨_, (pss_one (ps_ret (pe_and (pe_callB (call_isi) (by rfl) T.n_isinstance (by decide +kernel) (pa_cons (pv 0) (pa_cons (pe_bltn (v := .ty "int") (by rfl) T.n_int (by decide +kernel) rfl) pa_nil))) (pe_one (pe_not (pe_callB (call_isi) (by rfl) T.n_isinstance (by decide +kernel) (pa_cons (pv 0) (pa_cons (pe_bltn (v := .ty "bool") (by rfl) T.n_bool (by decide +kernel) rfl) pa_nil)))))))), ?_⟩
  walk_at "run"
  exact q _ (Ex.refl _)
theorem u_is_integer {i : Int} {H : Hp} {Q : VK} {E : XK} (q : ∀ H', Ex H H' → Q (.bl true) H') : sp_is_integer K [.int i] H Q E := ⟨i, rfl, trivial, q⟩
local macro_rules | `(tactic| walk_at "st") => `(tactic| first
  | ((with_reducible refine' u_is_integer  ?_); (refine' fun _ _ => ?_)))
/-! over -/
def sp_over (K : PySem.W.Frag) : Sp := SV (fun i : Int × Int => [.int i.1, .int i.2]) (fun i _ => 0 < i.2 ∧ i.2 < 1073741824) fun i => .int (over i.1 i.2)
theorem ok_over (T : TX K mg) : Ok P w K mg base 1 (He.ga K "over") ["number", "by"] (sp_over K) := by
  obtain ⟨fd, F⟩ := T.F_over
  refine ⟨fd, okN F sc_over (by first | exact SV.len (fun _ => rfl) | exact PR.len (fun _ => rfl) | exact SJ.len (fun _ => rfl) | exact spEqB_len) (fun cdv A outer s H vs Q E hr h => ?_), F.bindsN (fun _ _ _ _ _ _ us hl => match us, hl with | [_, _], _ => rfl), F.kp⟩
  obtain ⟨⟨i, j⟩, rfl, c, q⟩ := h
  dsimp only at c q
  refine ⟨_, (pss_one (ps_ret (pe_un un_neg (pe_op op_fdivN (pe_un un_neg (pv 0)) (pv 1))))), ?_⟩
  walk_at "run"
  exact q _ (Ex.refl _)
theorem u_over {i j : Int} {H : Hp} {Q : VK} {E : XK} (c : 0 < j ∧ j < 1073741824) (q : ∀ H', Ex H H' → Q (.int (over i j)) H') : sp_over K [.int i, .int j] H Q E := ⟨(i, j), rfl, c, q⟩
local macro_rules | `(tactic| walk_at "st") => `(tactic| first
  | ((with_reducible refine' u_over ?ha ?_); (case ha => constructor <;> omega); (refine' fun _ _ => ?_)))
/-! is_within -/
def sp_is_within (K : PySem.W.Frag) : Sp := SV (fun i : Int × Int × Int => [.int i.1, .int i.2.1, .int i.2.2]) (fun i _ => i.2.1 ≤ i.1 ∧ i.1 ≤ i.2.2) fun _ => .bl true
theorem ok_is_within (T : TX K mg) : Ok P w K mg base 3 (He.ga K "is_within") ["value", "least", "most"] (sp_is_within K) := by
  obtain ⟨fd, F⟩ := T.F_is_within
  obtain ⟨_, G_is_integer, b_is_integer, k_is_integer⟩ := ok_is_integer (P := P) (w := w) (base := base) T
  refine ⟨fd, okN F sc_is_within (by first | exact SV.len (fun _ => rfl) | exact PR.len (fun _ => rfl) | exact SJ.len (fun _ => rfl) | exact spEqB_len) (fun cdv A outer s H vs Q E hr h => ?_), F.bindsN (fun _ _ _ _ _ _ us hl => match us, hl with | [_, _, _], _ => rfl), F.kp⟩
  obtain ⟨⟨i, l, m⟩, rfl, c, q⟩ := h
  dsimp only at c q
  refine ⟨_, (pss_one (ps_ret (pe_and (pe_call G_is_integer (hr.mono (by decide)) (by rfl) T.g_is_integer k_is_integer b_is_integer .nil pass0 (pa_cons (pv 0) pa_nil)) (pe_one (pe_chain op_le op_le (pv 1) (pv 0) (pv 2)))))), ?_⟩
  walk_at "run"
  rw [decide_eq_true c.2]
  exact q _ (by assumption)
theorem u_is_within {i l m : Int} {H : Hp} {Q : VK} {E : XK} (c : l ≤ i ∧ i ≤ m) (q : ∀ H', Ex H H' → Q (.bl true) H') : sp_is_within K [.int i, .int l, .int m] H Q E := ⟨(i, l, m), rfl, c, q⟩
local macro_rules | `(tactic| walk_at "st") => `(tactic| first
  | ((with_reducible refine' u_is_within ?ha ?_); (case ha => constructor <;> omega); (refine' fun _ _ => ?_)))
/-! need_plus -/
def sp_need_plus (K : PySem.W.Frag) : Sp := SV (fun i : Int × Str => [.int i.1, .str i.2]) (fun i _ => -6 ≤ i.1 ∧ i.1 ≤ 6) fun _ => .non
theorem ok_need_plus (T : TX K mg) : Ok P w K mg base 5 (He.ga K "need_plus") ["value", "part"] (sp_need_plus K) := by
  obtain ⟨fd, F⟩ := T.F_need_plus
  obtain ⟨_, G_is_within, b_is_within, k_is_within⟩ := ok_is_within (P := P) (w := w) (base := base) T
  refine ⟨fd, okN F sc_need_plus (by first | exact SV.len (fun _ => rfl) | exact PR.len (fun _ => rfl) | exact SJ.len (fun _ => rfl) | exact spEqB_len) (fun cdv A outer s H vs Q E hr h => ?_), F.bindsN (fun _ _ _ _ _ _ us hl => match us, hl with | [_, _], _ => rfl), F.kp⟩
  obtain ⟨⟨i, l⟩, rfl, c, q⟩ := h
  dsimp only at c q
  refine ⟨_, (pss_one (ps_if (pt_not (pt_val (pe_call G_is_within (hr.mono (by decide)) (by rfl) T.g_is_within k_is_within b_is_within .nil pass0 (pa_cons (pv 0) (pa_cons (pe_un un_neg (pe_glob (v := .int 6) (by rfl) T.g_MOST_PLUS.choose_spec ⟨_, rfl⟩)) (pa_cons (pe_glob (v := .int 6) (by rfl) T.g_MOST_PLUS.choose_spec ⟨_, rfl⟩) pa_nil)))))) pss_never pss_nil)), ?_⟩
  walk_at "run"
  exact q _ (by assumption)
theorem u_need_plus {i : Int} {z : Str} {H : Hp} {Q : VK} {E : XK} (c : -6 ≤ i ∧ i ≤ 6) (q : ∀ H', Ex H H' → Q .non H') : sp_need_plus K [.int i, .str z] H Q E := ⟨(i, z), rfl, c, q⟩
local macro_rules | `(tactic| walk_at "st") => `(tactic| first
  | ((with_reducible refine' u_need_plus ?ha ?_); (case ha => constructor <;> omega); (refine' fun _ _ => ?_)))
/-! need_weight -/
def sp_need_weight (K : PySem.W.Frag) : Sp := SV (fun i : Int => [.int i]) (fun i _ => 1 ≤ i ∧ i ≤ 100000) fun _ => .non
theorem ok_need_weight (T : TX K mg) : Ok P w K mg base 5 (He.ga K "need_weight") ["value"] (sp_need_weight K) := by
  obtain ⟨fd, F⟩ := T.F_need_weight
  obtain ⟨_, G_is_within, b_is_within, k_is_within⟩ := ok_is_within (P := P) (w := w) (base := base) T
  refine ⟨fd, okN F sc_need_weight (by first | exact SV.len (fun _ => rfl) | exact PR.len (fun _ => rfl) | exact SJ.len (fun _ => rfl) | exact spEqB_len) (fun cdv A outer s H vs Q E hr h => ?_), F.bindsN (fun _ _ _ _ _ _ us hl => match us, hl with | [_], _ => rfl), F.kp⟩
  obtain ⟨i, rfl, c, q⟩ := h
  refine ⟨_, (pss_one (ps_if (pt_not (pt_val (pe_call G_is_within (hr.mono (by decide)) (by rfl) T.g_is_within k_is_within b_is_within .nil pass0 (pa_cons (pv 0) (pa_cons pe_int (pa_cons (pe_glob (v := .int 1000000000000000000000000000000000000000000000000000000000000) (by rfl) T.g_MOST_WEIGHT.choose_spec ⟨_, rfl⟩) pa_nil)))))) pss_never pss_nil)), ?_⟩
  walk_at "run"
  exact q _ (by assumption)
theorem u_need_weight {i : Int} {H : Hp} {Q : VK} {E : XK} (c : 1 ≤ i ∧ i ≤ 100000) (q : ∀ H', Ex H H' → Q .non H') : sp_need_weight K [.int i] H Q E := ⟨i, rfl, c, q⟩
local macro_rules | `(tactic| walk_at "st") => `(tactic| first
  | ((with_reducible refine' u_need_weight ?ha ?_); (case ha => constructor <;> omega); (refine' fun _ _ => ?_)))
/-! is_times -/
def sp_is_times (K : PySem.W.Frag) : Sp := SV (fun i : Addr × Int × Int × Int => [.ref i.1, .int i.2.2.2]) (fun i H => SqT K H i.1 [.int i.2.1, .int i.2.2.1] ∧ (1 ≤ i.2.1 ∧ i.2.1 ≤ i.2.2.2) ∧ (1 ≤ i.2.2.1 ∧ i.2.2.1 ≤ i.2.2.2)) fun _ => .bl true
theorem ok_is_times (T : TX K mg) : Ok P w K mg base 5 (He.ga K "is_times") ["value", "most"] (sp_is_times K) := by
  obtain ⟨fd, F⟩ := T.F_is_times
  obtain ⟨_, G_is_within, b_is_within, k_is_within⟩ := ok_is_within (P := P) (w := w) (base := base) T
  refine ⟨fd, okN F sc_is_times (by first | exact SV.len (fun _ => rfl) | exact PR.len (fun _ => rfl) | exact SJ.len (fun _ => rfl) | exact spEqB_len) (fun cdv A outer s H vs Q E hr h => ?_), F.bindsN (fun _ _ _ _ _ _ us hl => match us, hl with | [_, _], _ => rfl), F.kp⟩
  obtain ⟨⟨a, i, j, m⟩, rfl, ⟨hS, c1, c2⟩, q⟩ := h
  dsimp only at hS c1 c2 q
  refine ⟨_, (pss_one (ps_ret (pe_and (pe_callB (call_isi) (by rfl) T.n_isinstance (by decide +kernel) (pa_cons (pv 0) (pa_cons (pe_bltn (v := .ty "tuple") (by rfl) T.n_tuple (by decide +kernel) rfl) pa_nil))) (pe_and (pe_cmpR op_eq (pe_callB (c_lenS) (by rfl) T.n_len (by decide +kernel) (pa_cons (pv 0) pa_nil)) pe_int (nomark _)) (pe_one (pe_callB (cr_all rfl) (by rfl) T.n_all (by decide +kernel) (pa_cons (pe_lc (own := [("each", 2)]) (by rfl) sc_is_times.nd (pi_tup (pv 0)) (blkOk_by (by rfl)) (fun _ _ _ _ _ => pg_name (i := 2) sc_is_times.nd rfl (by first | exact Or.inl rfl | exact Or.inr rfl)) (fun _ _ _ _ _ => pts_nil) (fun _ _ _ _ _ => (pe_call G_is_within (hr.mono (by decide)) (by rfl) T.g_is_within k_is_within b_is_within .nil pass0 (pa_cons (pv 2) (pa_cons pe_int (pa_cons (pv 1) pa_nil)))))) pa_nil))))))), ?_⟩
  walk_at "run"
  refine lcT [i, j] (c := V.int) (R := fun _ y _ => y = .bl true) (sz 2 (by omega)) hS ⟨fun _ _ _ _ _ h => h, fun j' H' Qk hj e q => ?_⟩ fun D H' ys hD e hy a2 => ?_
  · simp only [List.mem_cons, List.not_mem_nil, or_false] at hj
    refine k_name ⟨rfl, ?_⟩
    walk_at "go"
    have c : 1 ≤ j' ∧ j' ≤ m := by rcases hj with rfl | rfl <;> assumption
    walk_at "go"
    exact q _ _ (by assumption) rfl
  · cases a2.map
    refine k_all1 [i, j] ?_ ?_
    · walk_at "kn"
    · exact q _ e
theorem u_is_times {a : Addr} {i j m : Int} {H : Hp} {Q : VK} {E : XK} (hS : SqT K H a [.int i, .int j]) (c : (1 ≤ i ∧ i ≤ m) ∧ 1 ≤ j ∧ j ≤ m) (q : ∀ H', Ex H H' → Q (.bl true) H') : sp_is_times K [.ref a, .int m] H Q E := ⟨(a, i, j, m), rfl, ⟨hS, c.1, c.2⟩, q⟩
local macro_rules | `(tactic| walk_at "st") => `(tactic| first
  | ((with_reducible refine' u_is_times ?ha ?hb ?_); (case ha => walk_at "kn"); (case hb => refine ⟨⟨?_, ?_⟩, ?_, ?_⟩ <;> omega); (refine' fun _ _ => ?_)))

end
end M
namespace M
open PySem PySem.Spec PyProof.Rows L2 Evl
/-- all but the object at x stands -/
def Mu (x : Addr) (H H' : Hp) : Prop := ∀ b o, b ≠ x → H b = some o → H' b = some o
theorem Mu.refl (x : Addr) (H : Hp) : Mu x H H := fun _ _ _ h => h
theorem Ex.mu {x : Addr} {H H' : Hp} (e : Ex H H') : Mu x H H' := fun b o _ h => e b o h
theorem Mu.trans {x : Addr} {H H1 H2 : Hp} (a : Mu x H H1) (b : Mu x H1 H2) : Mu x H H2 := fun y o n h => b y o n (a y o n h)
theorem Mu.upd {x : Addr} {H : Hp} {o : HO} : Mu x H (upd H x o) := fun b u n h => by
  rw [upd_ne n]
  exact h
/-- x an instance: what is none stands -/
theorem Mu.t {K : PySem.W.Frag} {x a C dx : Addr} {fs : List (Str × V)} {xs : List V} {H H' : Hp} (m : Mu x H H') (hx : H x = some (.ins C dx fs)) (h : SqT K H a xs) : SqT K H' a xs := by
  rcases h with (h | ⟨o, h⟩) | h
  · exact .inl (.inl (m _ _ (fun z => by subst z; rw [hx] at h; cases h) h))
  · exact .inl (.inr ⟨o, m _ _ (fun z => by subst z; rw [hx] at h; cases h) h⟩)
  · exact .inr h
theorem Mu.fld {K : PySem.W.Frag} {x a : Addr} {f : Str} {v : V} {H H' : Hp} (m : Mu x H H') (n : a ≠ x) (h : Fld K H a f v) : Fld K H' a f v := by
  obtain ⟨C, dx, fs, h, r⟩ := h
  exact ⟨C, dx, fs, m _ _ n h, r⟩
theorem Mu.ins {x a C : Addr} {f : Str} {H H' : Hp} (m : Mu x H H') (n : a ≠ x) (h : Ins H a C f) : Ins H' a C f := by
  obtain ⟨dx, fs, h, r⟩ := h
  exact ⟨dx, fs, m _ _ n h, r⟩
theorem Mu.to {K : PySem.W.Frag} {x C dx : Addr} {fs : List (Str × V)} {v : V} {o : Option Br} {H H' : Hp} (m : Mu x H H') (hx : H x = some (.ins C dx fs)) (h : TO K H v o) : TO K H' v o := by
  cases o with
  | none => exact h
  | some b =>
    obtain ⟨a, ea, h⟩ := h
    exact ⟨a, ea, m.t hx h⟩
theorem Mu.rule {K : PySem.W.Frag} {x C dx a : Addr} {fs : List (Str × V)} {R : Rl} {H H' : Hp} (m : Mu x H H') (hx : H x = some (.ins C dx fs)) (n : a ≠ x) (h : RuleI K H a R) : RuleI K H' a R where
  ok := h.ok
  c := let ⟨dx, fs, q⟩ := h.c; ⟨dx, fs, m _ _ n q⟩
  b := m.ins n h.b
  g := m.ins n h.g
  rb := let ⟨tp, h1, h2⟩ := h.rb.t; ⟨⟨tp, m.fld n h1, m.t hx h2⟩, m.fld n h.rb.k⟩
  tn := fun t s r q => let ⟨⟨tt, h1, h2⟩, h3⟩ := h.tn t s r q; ⟨⟨tt, m.fld n h1, m.t hx h2⟩, m.fld n h3⟩
theorem fld_ne {K : PySem.W.Frag} {x a C dx : Addr} {f : Str} {v : V} {H : Hp} (hx : H x = some (.ins C dx [])) (h : Fld K H a f v) : a ≠ x := fun z => by
  obtain ⟨C', dx', fs', h, _, _, l⟩ := h
  subst z
  rw [hx] at h
  cases h
  cases l
theorem fld_of {K : PySem.W.Frag} {x C dx : Addr} {f : Str} {v : V} {fs : List (Str × V)} {H : Hp} (hx : H x = some (.ins C dx fs)) (c : Cls K C) (n : NoAttr K C f) (l : fs.lookup f = some v) : Fld K H x f v := ⟨C, dx, fs, hx, c, n, l⟩
/-- an __init__'s promise -/
def SJ {α : Type} (C : Addr) (args : α → List V) (pre : α → Hp → Prop) (post : α → Addr → Hp → Prop) : Sp := fun vs H Q _ => ∃ (a : α) (x dx : Addr), vs = .ref x :: args a ∧ H x = some (.ins C dx []) ∧ pre a H ∧
  ∀ H', Mu x H H' → post a x H' → Q .non H'
theorem SJ.len {α : Type} {C : Addr} {args : α → List V} {pre : α → Hp → Prop} {post : α → Addr → Hp → Prop} {n : Nat} (hl : ∀ a, (args a).length = n) (vs : List V) (H : Hp) (Q : VK) (E : XK) (h : SJ C args pre post vs H Q E) : vs.length = n + 1 := by
  obtain ⟨a, x, dx, rfl, _⟩ := h
  rw [List.length_cons, hl]
theorem SJ.make {α : Type} {C : Addr} {args : α → List V} {pre : α → Hp → Prop} {post : α → Addr → Hp → Prop} {H : Hp} {F : Addr → Hp → Prop} {E : XK} (a : α) (mono : ∀ H', Ex H H' → pre a H') (k : ∀ x H', Ex H H' → H x = none → post a x H' → F x H') :
    ∀ x dx, H x = none → H dx = none → dx ≠ x → SJ C args pre post (.ref x :: args a) (upd (upd H dx (.own x)) x (.ins C dx [])) (fun v H2 => v = .non ∧ F x H2) E := by
  intro x dx nx nd ne
  refine ⟨a, x, dx, rfl, upd_same, mono _ (made_ex nx nd), fun H' h1 h2 => ⟨rfl, k x H' (fun b o e => ?_) nx h2⟩⟩
  have nb : b ≠ x := ne_of_none e nx
  exact h1 b o nb (made_ex nx nd b o e)
/-- self.f = value -/
def SF (K : PySem.W.Frag) (f : Str) (y x : V) (H : Hp) (k : Hp → Prop) : Prop := ∃ a C dx fs, x = .ref a ∧ H a = some (.ins C dx fs) ∧ Cls K C ∧ NoAttr K C f ∧ fs.length < 1000 ∧ k (upd H a (.ins C dx (putF f y fs)))
section
variable {K : PySem.W.Frag} {σ : L2.St} {H : Hp} {ta tv : TE} {D : Ends} {Q : VK} {mg : Str → Option Value}
theorem k_sfld {f : Str} (h : tv σ H fun y H1 => ta σ H1 fun x H2 => SF K f y x H2 (D.nx σ)) : sFld K ta tv f D σ H := h
theorem k_sf {f : Str} {y : V} {a C dx : Addr} {fs : List (Str × V)} {k : Hp → Prop} (h : H a = some (.ins C dx fs)) (c : Cls K C) (n : NoAttr K C f) (hl : fs.length < 1000) (q : ∀ H', Mu a H H' → H' a = some (.ins C dx (putF f y fs)) → k H') : SF K f y (.ref a) H k :=
  ⟨a, C, dx, fs, rfl, h, c, n, hl, q _ Mu.upd upd_same⟩
end
section
variable {X : Cx} {CX : CXT} {k : Nat} {f : Addr} {sp : Sp} {E : XK} {x : Str} {e : Expr} {es : List Expr} {t : TA} {p pos : Pos}
/-- x(e, ..), x a def with a star parameter -/
theorem pe_callR (F : FnR X.prog X.w X.K X.mg X.base CX k f sp) (hr : Room k X.A) (hk : PySem.W.keepIn X.K (.ref f) = true) (hg : Gl X x) (hm : X.mg x = some (.ref f)) (hx : Passes CX X E) (ha : PA X (e :: es) t) (hd : (x == ("__debug__" : Str)) = false := by decide)
    (hst : starEach (e :: es) X.env = (false, eval e X.env) :: starEach es X.env := by rfl) (hpl : (backTo pos (starEach es X.env)).any (·.1) = false := by rfl) : PE X (.Call (.Name x p) (e :: es) [] pos) (tCall sp [] E t) := by
  refine ⟨fun pins s σ H Q I h => ?_⟩
  refine wpAny_Call_Name_kw (ld_glob I hg hm ?_ hd)
  refine PySem.W.callWith_K (first := []) (h₀ := X.base) I.ok.mod.kin hk (thn (ha.run pos pins s σ H _ I h) fun us s1 ⟨vs, H1, I1, r, q⟩ => ⟨I1.kIn, ?_⟩) hst hpl
  have q2 : sp vs H1 Q E := by
    have z : sp (vs ++ []) H1 Q E := q
    rwa [List.append_nil] at z
  exact wpAny_call (run_fnR F hr hx I1 r q2)
end
/-! ### sum of a tuple -/
section
variable {prog : Program} {w : World} {A : Around} {E : Value → Shared → Prop} {s : Shared} {l : Addr} {its : List Value} {ns : List Int}
theorem sum_tup {Q : Value → Shared → Prop} (hh : A.handled = none) (hl : s.heap.IsTuple l its.toArray) (hi : IntsAre its ns)
    (h : ∀ h' tk t', (∀ b o, s.heap.get? b = some o → h'.get? b = some o) → Q (.int ns.sum t') { s with heap := h', toks := tk }) : wpAny (model prog w) A (call (.builtin "sum") [.ref l]) Q E s := by
  obtain ⟨xs, e⟩ := hi.allInts.items
  have hn : numsOf (intItems xs).toList = ns := by rw [← e]; exact hi.numsOf
  rw [nums_intItems] at hn
  rw [e] at hl
  have hlt : l < s.heap.objs.size := by obtain ⟨_, e, _⟩ := hl; exact Heap.lt_size e
  refine call_sum_walkG (wpAny_pyIter_tuple hl ?_)
  refine ⟨_, _, _, _, _, _, numAt xs, rfl, Walks.tuple (A := A.in1) hh s.heap.objs.size l (Nat.ne_of_lt hlt) (intItems xs), ⟨⟨_, Heap.get?_push_size _ rfl, rfl, rfl⟩, hl.push _⟩, fun b hb => ?_, (fun _ _ => intItems_at), fun h' tk t' hk => ?_⟩
  · show b < (s.heap.push _).objs.size
    rw [Heap.size_push]
    rcases List.mem_cons.mp hb with rfl | hb
    · exact Nat.lt_succ_self _
    · rcases List.mem_cons.mp hb with rfl | hb
      · exact Nat.lt_succ_of_lt hlt
      · cases hb
  · have := h h' tk t' (fun b o e => by
      refine hk b o (fun hm => ?_) (Heap.get?_push_of_some _ e)
      rcases List.mem_cons.mp hm with e1 | hm
      · exact absurd (e1 ▸ Heap.lt_size e) (Nat.lt_irrefl _)
      · cases hm)
    have z : preSum (numAt xs) (intItems xs).size = ns.sum := by
      rw [show (intItems xs).size = xs.size by simp [intItems], preSum_eq, List.take_of_length_le (by simp), hn]
    rw [z]
    exact this
end
def rSumT (K : PySem.W.Frag) : List V → Hp → VK → Prop := fun vs H Q => ∃ (a : Addr) (ns : List Int), vs = [V.ref a] ∧ SqT K H a (ns.map V.int) ∧ Q (.int ns.sum) H
theorem c_sumT {X : Cx} (hc : X.calm = true := by rfl) : CallR X (.builtin "sum") (rSumT X.K) := by
  intro pins s σ H vs us Q I r h
  obtain ⟨a, ns, rfl, hs, q⟩ := h
  obtain ⟨its, rv, ⟨o, h1, h2, n, h3⟩, _⟩ := I.tuple hs
  rw [Vals.ref1 r]
  exact sum_tup (I.ok.hd hc) ⟨o, h1, h2, n, h3⟩ rv.ints fun h' tk t' hk => ⟨.int _, H, I.kept hk, ⟨_, rfl⟩, q⟩
theorem k_sumTu {K : PySem.W.Frag} {H : Hp} {Q : VK} {p : Addr} (ns : List Int) (h : SqT K H p (ns.map V.int)) (q : Q (.int ns.sum) H) : rSumT K [.ref p] H Q := ⟨p, ns, rfl, h, q⟩
/-! ### tests of the package -/
def dot (ps xs : List Int) : Int := ((ps.zip xs).map fun j => j.1 * j.2).sum
structure TestAt (K : PySem.W.Frag) (H : Hp) (a : Addr) (ps : List Int) (b : Int) : Prop where
  c : Ins H a (He.ga K "Test") "amount"
  p : ∃ tp, Fld K H a "parts" (.ref tp) ∧ SqT K H tp (ps.map V.int)
  b : Fld K H a "bound" (.int b)
  n : 1 ≤ ps.length ∧ ps.length ≤ 5
  m : ∀ p ∈ ps, -100000 < p ∧ p < 100000
theorem TestAt.monoN {K : PySem.W.Frag} {H H' : Hp} {a : Addr} {ps : List Int} {b : Int} (e : ExN H H') (h : TestAt K H a ps b) : TestAt K H' a ps b where
  c := e.ins h.c
  p := let ⟨tp, h1, h2⟩ := h.p; ⟨tp, e.fld h1, e.t h2⟩
  b := e.fld h.b
  n := h.n
  m := h.m
theorem TestAt.mono {K : PySem.W.Frag} {H H' : Hp} {a : Addr} {ps : List Int} {b : Int} (e : Ex H H') (h : TestAt K H a ps b) : TestAt K H' a ps b := h.monoN (.of e)
theorem zip_fst {ps xs : List Int} (h : xs.length = ps.length) : (ps.zip xs).map (fun j => V.int j.1) = ps.map V.int := by
  rw [show (fun j : Int × Int => V.int j.1) = V.int ∘ Prod.fst from rfl, ← List.map_map, List.map_fst_zip (by omega)]
theorem zip_snd {ps xs : List Int} (h : xs.length = ps.length) : (ps.zip xs).map (fun j => V.int j.2) = xs.map V.int := by
  rw [show (fun j : Int × Int => V.int j.2) = V.int ∘ Prod.snd from rfl, ← List.map_map, List.map_snd_zip (by omega)]
def addF (xs ys : List Int) : List Int := (xs.zip ys).map fun j => j.1 + j.2
def scaleF (n : Int) (xs : List Int) : List Int := xs.map fun x => n * x
theorem TO_mono {K : PySem.W.Frag} {H H' : Hp} {v : V} {o : Option Br} (e : Ex H H') (h : TO K H v o) : TO K H' v o := h.mono (.of e)
theorem All2.of_map {α : Type} {F : α → V} {l : List α} {ys : List V} {H : Hp} (h : ys = l.map F) : All2 (fun j y _ => y = F j) l ys H := by
  subst h
  refine ⟨by simp, fun i j y a b => ?_⟩
  rw [List.getElem?_map, a] at b
  exact (Option.some.inj b).symm
theorem room64 {k : Nat} {A : Around} (h : Room k A) : A.units + 64 < cLine := by
  have := h.un
  omega
theorem room65 {k : Nat} {A : Around} (h : Room k A) : A.units + 65 < cLine := by
  have := h.un
  omega
theorem c_sumTK {X : Cx} (K : PySem.W.Frag) (hK : X.K = K) (hc : X.calm = true) : CallR X (.builtin "sum") (rSumT K) := by
  subst hK
  exact c_sumT hc
theorem c_tupleK {X : Cx} (K : PySem.W.Frag) (hK : X.K = K) : CallR X (.type "tuple") (rTupOf K) := by
  subst hK
  exact c_tuple1
/-- f(e, ..), f an instance with a dict of the class at C -/
def tCallI (C : Addr) (sp : Sp) (E : XK) (tf : TE) (t : TA) : TE := fun σ H Q => tf σ H fun y H1 => ∃ a, y = V.ref a ∧ t σ H1 fun vs H2 => (∃ dx fs, H2 a = some (.ins C dx fs)) ∧ sp (V.ref a :: vs) H2 Q E
section
variable {X : Cx} {CX : CXT} {k : Nat} {C g : Addr} {sp : Sp} {E : XK} {e fe : Expr} {es : List Expr} {tf : TE} {t : TA} {pos : Pos} {fd : FuncData} {ps : List Str}
theorem pe_callI (K : PySem.W.Frag) (hK : X.K = K) (hf : PE X fe tf) (c : StX.CallO K C g) (F : FnOk X.prog X.w X.K X.mg X.base CX k g fd ps sp) (hb : Binds X.K fd ps []) (hr : Room k X.A) (hx : Passes CX X E) (ha : PA X (e :: es) t)
    (ht : eval (.Call fe (e :: es) [] pos) X.env = (do callWith pos (← eval fe X.env) [] (backTo pos (starEach (e :: es) X.env)) (backToKw pos (keywordEach [] X.env))) := by rfl)
    (he : starEach (e :: es) X.env = (false, eval e X.env) :: starEach es X.env := by rfl) (hpl : (backTo pos (starEach es X.env)).any (·.1) = false := by rfl) : PE X (.Call fe (e :: es) [] pos) (tCallI C sp E tf t) := by
  subst hK
  have FR : FnR X.prog X.w X.K X.mg X.base CX k g sp := (F.raw hb .nil).imp fun vs H Q E h => by
    rw [List.append_nil]
    exact h
  refine ⟨fun pins s σ H Q I h => ?_⟩
  refine Call_ (thn (hf.run pins s σ H _ I h) fun u s1 ⟨y, H1, I1, ry, a, ey, q⟩ => ?_) ht
  subst ey
  obtain rfl : u = Value.ref a := ry
  refine StX.callO_with (thn (ha.run pos pins s1 σ H1 _ I1 q) fun us s2 ⟨vs, H2, I2, r, hi, q2⟩ => ?_) he hpl
  have hi2 : StX.InsC X H2 a C := .inr hi
  obtain ⟨ox, od, J, hd⟩ := StX.insC_at I2 hi2
  exact ⟨⟨C, ox, od, J, hd⟩, StX.run_callO c FR hr hx I2 hi2 r q2⟩
end
theorem pg_tupK {X : Cx} {es : List Expr} {k : Nat} {t : TGs} {pos : Pos} (K : PySem.W.Frag) (n : Nat) (hK : X.K = K) (hc : X.calm = true) (h : PGs X es t) (hn : (assignEach es X.env).length = n) (hst : (assignEach es X.env).findIdx? (·.1) = none) : PG X (.Tuple es k pos) (gTup K n t) := by
  subst hK
  exact pg_tup hc h hn hst
theorem Mu.lst {x a C dx : Addr} {fs : List (Str × V)} {xs : List V} {H H' : Hp} (m : Mu x H H') (hx : H x = some (.ins C dx fs)) (h : H a = some (.lst xs)) : H' a = some (.lst xs) :=
  m _ _ (fun z => by subst z; rw [hx] at h; cases h) h
/-! ### forms -/
structure BL (n : Nat) (B : Int) (xs : List Int) : Prop where
  len : xs.length = n
  mem : ∀ p ∈ xs, -B ≤ p ∧ p ≤ B
theorem mul_bd {k p B M : Int} (hM : 0 ≤ M) (hB : 0 ≤ B) (hk : -M ≤ k ∧ k ≤ M) (hp : -B ≤ p ∧ p ≤ B) : -(M * B) ≤ k * p ∧ k * p ≤ M * B := by
  have h1 : k.natAbs ≤ M.natAbs := by omega
  have h2 : p.natAbs ≤ B.natAbs := by omega
  have h3 := Nat.mul_le_mul h1 h2
  rw [← Int.natAbs_mul, ← Int.natAbs_mul] at h3
  have h4 : 0 ≤ M * B := Int.mul_nonneg hM hB
  omega
theorem BL.scale {n : Nat} {B k M : Int} {xs : List Int} (h : BL n B xs) (hM : 0 ≤ M) (hB : 0 ≤ B) (hk : -M ≤ k ∧ k ≤ M) : BL n (M * B) (scaleF k xs) := by
  refine ⟨by rw [scaleF, List.length_map]; exact h.len, fun p hp => ?_⟩
  obtain ⟨x, hx, rfl⟩ := List.mem_map.mp hp
  exact mul_bd hM hB hk (h.mem x hx)
theorem BL.add {n : Nat} {B C : Int} {xs ys : List Int} (h : BL n B xs) (g : BL n C ys) : BL n (B + C) (addF xs ys) := by
  refine ⟨by rw [addF, List.length_map, List.length_zip, h.len, g.len, Nat.min_self], fun p hp => ?_⟩
  obtain ⟨x, hx, rfl⟩ := List.mem_map.mp hp
  have h1 := h.mem _ (List.of_mem_zip hx).1
  have h2 := g.mem _ (List.of_mem_zip hx).2
  constructor <;> omega
theorem BL.le {n : Nat} {B C : Int} {xs : List Int} (h : BL n B xs) (hc : B ≤ C) : BL n C xs := ⟨h.len, fun p hp => by have := h.mem p hp; omega⟩
theorem BL.test {n : Nat} {B : Int} {xs : List Int} (h : BL n B xs) (hn : 1 ≤ n ∧ n ≤ 5) (hB : B < 100000) : (1 ≤ xs.length ∧ xs.length ≤ 5) ∧ ∀ p ∈ xs, -100000 < p ∧ p < 100000 :=
  ⟨by rw [h.len]; exact hn, fun p hp => by have := h.mem p hp; omega⟩
def unitP (n i : Nat) : List Int := (List.range n).map fun j => if decide ((0 : Int) + (i : Nat) = 0 + (j : Nat)) then 1 else 0
def lightP (three : Bool) : List Int := if three then [1, 0, 0] else [1, 0, 0, 0]
def outerP (three : Bool) : List Int := if three then [0, 0, 1] else [0, 0, 0, 1]
def innerP (three : Bool) : List Int := if three then [0, 1, 0] else [0, 1, 1, 0]
def nearP : List Int := [0, 1, 0, 0]
def farP : List Int := [0, 0, 1, 0]
def unitsP (three : Bool) : List (List Int) := if three then [[1, 0, 0], [0, 1, 0], [0, 0, 1]] else [[1, 0, 0, 0], [0, 1, 0, 0], [0, 0, 1, 0], [0, 0, 0, 1]]
/-- a tuple of ints -/
def TI (K : PySem.W.Frag) (xs : List Int) (y : V) (H : Hp) : Prop := ∃ a, y = .ref a ∧ SqT K H a (xs.map V.int)
theorem TI.mono {K : PySem.W.Frag} {xs : List Int} {y : V} {H H' : Hp} (e : ExN H H') (h : TI K xs y H) : TI K xs y H' :=
  let ⟨a, h1, h2⟩ := h; ⟨a, h1, e.t h2⟩
structure FormsAt (K : PySem.W.Frag) (H : Hp) (a : Addr) (three : Bool) : Prop where
  hm : Ins H a (He.ga K "Forms") "heavy_form"
  sd : Ins H a (He.ga K "Forms") "sides"
  units : ∃ ul us, Fld K H a "units" (.ref ul) ∧ SqL K H ul us ∧ All2 (TI K) (unitsP three) us H
  light : ∃ t, Fld K H a "light" (.ref t) ∧ SqT K H t ((lightP three).map V.int)
  outer : ∃ t, Fld K H a "outer" (.ref t) ∧ SqT K H t ((outerP three).map V.int)
  inner : ∃ t, Fld K H a "inner" (.ref t) ∧ SqT K H t ((innerP three).map V.int)
  near : if three then Fld K H a "near" .non else ∃ t, Fld K H a "near" (.ref t) ∧ SqT K H t (nearP.map V.int)
  far : if three then Fld K H a "far" .non else ∃ t, Fld K H a "far" (.ref t) ∧ SqT K H t (farP.map V.int)
theorem FormsAt.mono {K : PySem.W.Frag} {H H' : Hp} {a : Addr} {three : Bool} (e : Ex H H') (h : FormsAt K H a three) : FormsAt K H' a three where
  hm := h.hm.mono e
  sd := h.sd.mono e
  units := let ⟨ul, us, h1, h2, h3⟩ := h.units; ⟨ul, us, h1.mono e, ex_l e h2, h3.mono fun _ _ r => r.mono (.of e)⟩
  light := let ⟨t, h1, h2⟩ := h.light; ⟨t, h1.mono e, ex_t e h2⟩
  outer := let ⟨t, h1, h2⟩ := h.outer; ⟨t, h1.mono e, ex_t e h2⟩
  inner := let ⟨t, h1, h2⟩ := h.inner; ⟨t, h1.mono e, ex_t e h2⟩
  near := by
    have n := h.near
    cases three with
    | true => exact Fld.mono e n
    | false =>
      obtain ⟨t, h1, h2⟩ := n
      exact ⟨t, h1.mono e, ex_t e h2⟩
  far := by
    have n := h.far
    cases three with
    | true => exact Fld.mono e n
    | false =>
      obtain ⟨t, h1, h2⟩ := n
      exact ⟨t, h1.mono e, ex_t e h2⟩
end M
namespace M
open PySem PySem.Spec PyProof.Rows L2 Evl
local macro_rules | `(tactic| walk_at "ar") => `(tactic| first | exact rfl | omega | (simp only [List.length_map, List.length_cons, List.length_nil] at *; omega) | decide)
local macro_rules | `(tactic| walk_at "ex") => `(tactic| first | with_reducible assumption | exact Ex.refl _ | (refine' Ex.trans ?a ?b; (case b => with_reducible assumption); (case a => walk_at "ex")))
local macro_rules | `(tactic| walk_at "exn") => `(tactic| first | with_reducible assumption | exact ExN.refl _ | (refine' ExN.trans ?a (ExN.of ?b); (case b => with_reducible assumption); (case a => walk_at "exn")) | (refine' ExN.trans ?a ?b; (case b => with_reducible assumption); (case a => walk_at "exn")))
local macro_rules | `(tactic| walk_at "ln") => `(tactic| first | exact rfl | omega | (simp only [scaleF, addF, List.length_map, List.length_zip, List.length_cons, List.length_nil] <;> omega))
local macro_rules | `(tactic| walk_at "kn") => `(tactic| first
  | with_reducible assumption
  | ((with_reducible refine' Fld.mono ?e ?m); (case e => with_reducible assumption); (case m => walk_at "kn"))
  | ((with_reducible refine' Ins.mono ?e ?m); (case e => with_reducible assumption); (case m => walk_at "kn"))
  | ((with_reducible refine' SqT.of ?m); (case m => walk_at "kn"))
  | ((with_reducible refine' SqL.of ?m); (case m => walk_at "kn"))
  | with_reducible exact kn_DEEDS (by assumption)
  | with_reducible exact kn_INNER (by assumption)
  | with_reducible exact kn_ONCE (by assumption)
  | with_reducible exact kn_TWICE (by assumption)
  | ((with_reducible refine' RB.mono ?e ?m); (case e => with_reducible assumption); (case m => walk_at "kn"))
  | ((with_reducible refine' RuleI.mono ?e ?m); (case e => with_reducible assumption); (case m => walk_at "kn"))
  | ((with_reducible refine' TestAt.mono ?e ?m); (case e => with_reducible assumption); (case m => walk_at "kn"))
  | ((with_reducible refine' TO_mono ?e ?m); (case e => with_reducible assumption); (case m => walk_at "kn"))
  | ((with_reducible refine' CaseAt.mono ?e ?m); (case e => with_reducible assumption); (case m => walk_at "kn"))
  | ((with_reducible refine' ExN.t ?e ?m); (case e => with_reducible assumption); (case m => walk_at "kn"))
  | ((with_reducible refine' ex_t ?e ?m); (case e => with_reducible assumption); (case m => walk_at "kn"))
  | ((with_reducible refine' ex_l ?e ?m); (case e => with_reducible assumption); (case m => walk_at "kn"))
  | ((with_reducible refine' Ex.at ?e ?m); (case e => with_reducible assumption); (case m => walk_at "kn"))
  | ((with_reducible refine' Mu.t ?e ?n ?m); (case e => with_reducible assumption); (case n => with_reducible assumption); (case m => walk_at "kn"))
  | ((with_reducible refine' Mu.lst ?e ?n ?m); (case e => with_reducible assumption); (case n => with_reducible assumption); (case m => walk_at "kn"))
  | ((with_reducible refine' Mu.fld ?e ?n ?m); (case e => with_reducible assumption); (case n => with_reducible assumption); (case m => walk_at "kn")))
local macro_rules | `(tactic| walk_at "st") => `(tactic| first
  | with_reducible refine k_seq ?_
  | with_reducible refine k_asg ?_
  | with_reducible refine k_ret ?_
  | with_reducible refine k_drop ?_
  | with_reducible refine k_ifS ?_
  | with_reducible refine k_name ?_
  | with_reducible refine k_next ?_
  | ((with_reducible refine' k_var ?hv ?_); case hv => exact rfl)
  | with_reducible refine k_c ?_
  | with_reducible refine k_fld ?_
  | ((with_reducible refine' k_fld2 ?hv ?_); case hv => walk_at "kn")
  | with_reducible refine k_op ?_
  | with_reducible refine k_un ?_
  | with_reducible refine k_add ?_
  | with_reducible refine k_sub ?_
  | with_reducible refine k_neg ?_
  | ((with_reducible refine' k_mul ?hv ?_); case hv => first | (left; constructor <;> omega) | (right; constructor <;> omega))
  | ((with_reducible refine' k_fdiv ?hv ?_); case hv => constructor <;> omega)
  | ((with_reducible refine' k_mod ?hv ?_); case hv => omega)
  | with_reducible refine k_lt ?_
  | with_reducible refine k_le ?_
  | with_reducible refine k_gt ?_
  | with_reducible refine k_ge ?_
  | with_reducible refine k_eqI ?_
  | with_reducible refine k_eqT ?_
  | with_reducible refine k_neI ?_
  | with_reducible refine k_isN_int ?_
  | with_reducible refine k_isN_ref ?_
  | with_reducible refine k_isN_non ?_
  | with_reducible refine k_notN_int ?_
  | with_reducible refine k_notN_ref ?_
  | with_reducible refine k_notN_non ?_
  | with_reducible refine k_test ?_
  | with_reducible refine k_B ?_
  | with_reducible refine k_bx ?_
  | with_reducible refine k_not ?_
  | with_reducible refine k_notV ?_
  | with_reducible refine k_and ?_
  | with_reducible refine k_or ?_
  | with_reducible refine k_andV ?_
  | with_reducible refine k_orV ?_
  | with_reducible refine k_if ?_
  | with_reducible refine k_chain ?_
  | with_reducible refine iteT ?_
  | with_reducible refine iteF ?_
  | with_reducible refine k_nil ?_
  | with_reducible refine k_cons ?_
  | with_reducible refine k_tup ?_
  | with_reducible refine k_lst ?_
  | with_reducible refine k_call ?_
  | with_reducible refine k_meth ?_
  | ((with_reducible refine' k_meth2 ?hv ?_); case hv => walk_at "kn")
  | with_reducible refine k_make ?_
  | with_reducible refine k_cb ?_
  | with_reducible refine k_min2 ?_
  | with_reducible refine k_max2 ?_
  | with_reducible refine k_int1 ?_
  | with_reducible refine k_int1b ?_
  | with_reducible refine k_abs1 ?_
  | ((with_reducible refine' k_gtup ?hv ?hw ?_); (case hv => walk_at "kn"); (case hw => rfl))
  | with_reducible refine k_gcons ?_
  | with_reducible refine k_gnil ?_
  | with_reducible refine k_isi_ii ?_
  | with_reducible refine k_isi_ib ?_
  | with_reducible refine k_isi_ss ?_
  | ((with_reducible refine' k_isi_tt ?hv ?_); case hv => walk_at "kn")
  | with_reducible refine iteNT ?_
  | with_reducible refine iteNF ?_
  | with_reducible refine k_cval ?_
  | ((with_reducible refine' k_cval2 ?hv ?_); case hv => exact kn_most (by assumption))
  | with_reducible refine k_lc ?_
  | with_reducible refine k_iT ?_
  | ((with_reducible refine' k_iT2 ?hv ?_); case hv => walk_at "kn")
  | with_reducible refine k_iL ?_
  | ((with_reducible refine' k_iL2 ?hv ?_); case hv => walk_at "kn")
  | with_reducible refine k_i1 ?_
  | ((with_reducible refine' k_i1a ?hv ?_); case hv => constructor <;> omega)
  | with_reducible refine k_i2 ?_
  | ((with_reducible refine' k_i2a ?hv ?_); case hv => refine ⟨?_, ?_, ?_, ?_⟩ <;> omega)
  | with_reducible refine k_iZ ?_
  | ((with_reducible refine' k_iZa ?hv ?hw ?_); (case hv => walk_at "kn"); (case hw => walk_at "kn"))
  | with_reducible refine k_iN ?_
  | ((with_reducible refine' k_lenT ?hv ?_); case hv => walk_at "kn")
  | ((with_reducible refine' k_lenL ?hv ?_); case hv => walk_at "kn")
  | ((with_reducible refine' k_ixT ?hv ?hw ?_); (case hv => walk_at "kn"); (case hw => rfl))
  | ((with_reducible refine' k_tupL ?hv ?_); (case hv => walk_at "kn"); (refine' fun _ _ _ _ _ => ?_))
  | ((with_reducible refine' k_tupT ?hv ?_); (case hv => walk_at "kn"))
  | ((with_reducible refine' k_new ?hv ?_); (case hv => (simp only [List.length_cons, List.length_nil]; exact sze _ (by omega))); (refine' fun _ _ _ _ _ => ?_))
  | ((with_reducible refine' k_isiW ?hT ?hv ?_); (case hT => assumption); (case hv => walk_at "kn"))
  | ((with_reducible refine' k_isiT ?hT ?hv ?_); (case hT => assumption); (case hv => walk_at "kn"))
  | ((with_reducible refine' k_isiC ?hT ?hv ?_); (case hT => assumption); (case hv => walk_at "kn"))
  | ((with_reducible refine' k_isiLT ?hv ?hw ?_); (case hv => walk_at "kn"); (case hw => walk_at "kn"))
  | ((with_reducible refine' k_isN_TO ?hv ?_); (case hv => walk_at "kn"))
  | ((with_reducible refine' k_notN_TO ?hv ?_); (case hv => walk_at "kn"))
  | ((with_reducible refine' k_notInDeeds ?hv ?_); (case hv => walk_at "kn"))
  | with_reducible refine k_eqPut ?_
  | ((refine' k_eqB .inn ?hv ?hw ?hx ?_); (case hv => walk_at "kn"); (case hw => walk_at "kn"); (case hx => rfl))
  | ((refine' k_eqB .lf ?hv ?hw ?hx ?_); (case hv => walk_at "kn"); (case hw => walk_at "kn"); (case hx => rfl))
  | ((refine' k_eqB .ls ?hv ?hw ?hx ?_); (case hv => walk_at "kn"); (case hw => walk_at "kn"); (case hx => rfl))
  | ((refine' k_eqB .ff ?hv ?hw ?hx ?_); (case hv => walk_at "kn"); (case hw => walk_at "kn"); (case hx => rfl))
  | ((refine' k_eqB .fs ?hv ?hw ?hx ?_); (case hv => walk_at "kn"); (case hw => walk_at "kn"); (case hx => rfl))
  | ((refine' k_eqB .tf ?hv ?hw ?hx ?_); (case hv => walk_at "kn"); (case hw => walk_at "kn"); (case hx => rfl))
  | ((with_reducible refine' k_yes ?hv ?_); (case hv => walk_at "ar"))
  | ((with_reducible refine' k_no ?hv ?_); (case hv => walk_at "ar"))
  | ((with_reducible refine' k_nyes ?hv ?_); (case hv => walk_at "ar"))
  | ((with_reducible refine' k_nno ?hv ?_); (case hv => walk_at "ar"))
  | with_reducible refine k_sfld ?_
  | ((with_reducible refine' k_ixL ?hv ?hw ?_); (case hv => walk_at "kn"); (case hw => rfl))
  | ((with_reducible refine' k_sumTu _ ?hv ?_); (case hv => walk_at "kn"))
  | ((with_reducible refine' u_is_integer  ?_); (refine' fun _ _ => ?_))
  | ((with_reducible refine' u_over ?ha ?_); (case ha => constructor <;> omega); (refine' fun _ _ => ?_))
  | ((with_reducible refine' u_is_within ?ha ?_); (case ha => constructor <;> omega); (refine' fun _ _ => ?_))
  | ((with_reducible refine' u_need_plus ?ha ?_); (case ha => constructor <;> omega); (refine' fun _ _ => ?_))
  | ((with_reducible refine' u_need_weight ?ha ?_); (case ha => constructor <;> omega); (refine' fun _ _ => ?_))
  | ((with_reducible refine' u_is_times ?ha ?hb ?_); (case ha => walk_at "kn"); (case hb => refine ⟨⟨?_, ?_⟩, ?_, ?_⟩ <;> omega); (refine' fun _ _ => ?_)))
local macro_rules | `(tactic| walk_at "go") => `(tactic| repeat (walk_at "st"))
local macro_rules | `(tactic| walk_at "run") => `(tactic| (dsimp only [cxK]; walk_at "go"))

section
variable {P : Program} {w : World} {K : PySem.W.Frag} {mg : Str → Option Value} {base : Heap}
open MIn in
theorem spEqB_len {D : V → V → Hp → Bool → Prop} (vs : List V) (H : Hp) (Q : VK) (E : XK) (h : spEqB D vs H Q E) : vs.length = 2 := by
  obtain ⟨x, y, b, rfl, _⟩ := h
  rfl
/-! need_numbers -/
def sp_WeightRule_need_numbers (K : PySem.W.Frag) : Sp := SV (fun i : Addr × Int × Int × Int => [.ref i.1, .int i.2.2.2]) (fun i H => SqT K H i.1 [.int i.2.1, .int i.2.2.1] ∧ (1 ≤ i.2.2.1 ∧ i.2.2.1 ≤ i.2.1 ∧ i.2.1 ≤ 6) ∧ (-6 ≤ i.2.2.2 ∧ i.2.2.2 ≤ 6)) fun _ => .non
theorem ok_WeightRule_need_numbers (T : TX K mg) : Ok P w K mg base 7 (nnF K) ["times", "plus"] (sp_WeightRule_need_numbers K) := by
  obtain ⟨fd, F⟩ := T.F_WeightRule_need_numbers
  obtain ⟨_, G_is_times, b_is_times, k_is_times⟩ := ok_is_times (P := P) (w := w) (base := base) T
  obtain ⟨_, G_need_plus, b_need_plus, k_need_plus⟩ := ok_need_plus (P := P) (w := w) (base := base) T
  refine ⟨fd, okN F sc_WeightRule_need_numbers (by first | exact SV.len (fun _ => rfl) | exact PR.len (fun _ => rfl) | exact SJ.len (fun _ => rfl) | exact spEqB_len) (fun cdv A outer s H vs Q E hr h => ?_), F.bindsN (fun _ _ _ _ _ _ us hl => match us, hl with | [_, _], _ => rfl), F.kp⟩
  obtain ⟨⟨a, p, q', k⟩, rfl, ⟨hS, ⟨c1, c2, c3⟩, c4, c5⟩, q⟩ := h
  dsimp only at hS c1 c2 c3 c4 c5 q
  refine ⟨_, (pss_cons (ps_if (PW.pt (pw_or (pt_not (pt_val (pe_call G_is_times (hr.mono (by decide)) (by rfl) T.g_is_times k_is_times b_is_times .nil pass0 (pa_cons (pv 0) (pa_cons (ClX.pe_cval (pe_glob (v := .ref (He.ga K "WeightRule")) (by rfl) T.g_WeightRule rfl)) pa_nil))))) (pw_or1 (pt_cmpR op_gt (pe_ix ix_tup (pv 0) pe_int (fun _ _ => rfl)) (pe_ix ix_tup (pv 0) pe_int (fun _ _ => rfl)) (nomark _))))) pss_never pss_nil)
      (pss_one (ps_expr (pe_call G_need_plus (hr.mono (by decide)) (by rfl) T.g_need_plus k_need_plus b_need_plus .nil pass0 (pa_cons (pv 1) (pa_cons pe_str pa_nil)))))), ?_⟩
  walk_at "run"
  refine q _ ?_; exact Ex.trans (by assumption) (by assumption)
/-! beside -/
def sp_WeightRule_beside (K : PySem.W.Frag) : Sp := SV (fun i : Addr × Int × Rl => [.ref i.1, .int i.2.1]) (fun i H => RB K H i.1 i.2.2 ∧ (1 ≤ i.2.2.q ∧ i.2.2.q ≤ 8) ∧ (1 ≤ i.2.2.p ∧ i.2.2.p ≤ 8)) fun i => .int (i.2.2.b i.2.1)
theorem ok_WeightRule_beside (T : TX K mg) : Ok P w K mg base 1 (He.ma K (He.ga K "WeightRule") "beside") ["self", "weight"] (sp_WeightRule_beside K) := by
  obtain ⟨fd, F⟩ := T.F_WeightRule_beside
  refine ⟨fd, okN F sc_WeightRule_beside (by first | exact SV.len (fun _ => rfl) | exact PR.len (fun _ => rfl) | exact SJ.len (fun _ => rfl) | exact spEqB_len) (fun cdv A outer s H vs Q E hr h => ?_), F.bindsN (fun _ _ _ _ _ _ us hl => match us, hl with | [_, _], _ => rfl), F.kp⟩
  obtain ⟨⟨a, x, R⟩, rfl, ⟨hR, c1, c2⟩, q⟩ := h
  dsimp only at hR c1 c2 q
  obtain ⟨⟨tp, h1, h2⟩, h3⟩ := hR
  refine ⟨_, (pss_one (ps_ret (pe_op op_fdivN (pe_op op_add (pe_op op_mul (pe_ix ix_tup (pe_fld (pv 0) rfl) pe_int (fun _ _ => rfl)) (pv 1)) (pe_fld (pv 0) rfl)) (pe_ix ix_tup (pe_fld (pv 0) rfl) pe_int (fun _ _ => rfl))))), ?_⟩
  walk_at "run"
  exact q _ (Ex.refl _)
theorem u_beside {a : Addr} {x : Int} {R : Rl} {H : Hp} {Q : VK} {E : XK} (hR : RuleI K H a R) (q : ∀ H', Ex H H' → Q (.int (R.b x)) H') : sp_WeightRule_beside K [.ref a, .int x] H Q E := ⟨(a, x, R), rfl, ⟨hR.rb, by have := hR.ok.q1; have := hR.ok.qp; have := hR.ok.p6; dsimp only; omega, by have := hR.ok.q1; have := hR.ok.qp; have := hR.ok.p6; dsimp only; omega⟩, q⟩
local macro_rules | `(tactic| walk_at "st") => `(tactic| first
  | ((with_reducible refine' u_beside ?ha ?_); (case ha => walk_at "kn"); (refine' fun _ _ => ?_)))
/-! greatest -/
def sp_WeightRule_greatest (K : PySem.W.Frag) : Sp := SV (fun i : Addr × Int × Rl => [.ref i.1, .int i.2.1]) (fun i H => RuleI K H i.1 i.2.2 ∧ (1 ≤ i.2.1 ∧ i.2.1 ≤ 100000)) fun i => .int (i.2.2.b i.2.1)
theorem ok_WeightRule_greatest (T : TX K mg) : Ok P w K mg base 7 (He.ma K (He.ga K "WeightRule") "greatest") ["self", "x"] (sp_WeightRule_greatest K) := by
  obtain ⟨fd, F⟩ := T.F_WeightRule_greatest
  obtain ⟨_, G_need_weight, b_need_weight, k_need_weight⟩ := ok_need_weight (P := P) (w := w) (base := base) T
  obtain ⟨_, G_WeightRule_beside, b_WeightRule_beside, k_WeightRule_beside⟩ := ok_WeightRule_beside (P := P) (w := w) (base := base) T
  refine ⟨fd, okN F sc_WeightRule_greatest (by first | exact SV.len (fun _ => rfl) | exact PR.len (fun _ => rfl) | exact SJ.len (fun _ => rfl) | exact spEqB_len) (fun cdv A outer s H vs Q E hr h => ?_), F.bindsN (fun _ _ _ _ _ _ us hl => match us, hl with | [_, _], _ => rfl), F.kp⟩
  obtain ⟨⟨a, x, R⟩, rfl, ⟨hR, c1⟩, q⟩ := h
  dsimp only at hR c1 q
  have hb := hR.b
  refine ⟨_, (pss_cons (ps_expr (pe_call G_need_weight (hr.mono (by decide)) (by rfl) T.g_need_weight k_need_weight b_need_weight .nil pass0 (pa_cons (pv 1) pa_nil)))
      (pss_one (ps_ret (pe_meth (pv 0) (T.c_R R) (T.m_R_beside R) G_WeightRule_beside (hr.mono (by decide)) b_WeightRule_beside .nil pass0 (pa_cons (pv 1) pa_nil))))), ?_⟩
  walk_at "run"
  refine q _ ?_; exact Ex.trans (by assumption) (by assumption)
theorem u_greatest {a : Addr} {x : Int} {R : Rl} {H : Hp} {Q : VK} {E : XK} (hR : RuleI K H a R) (c : 1 ≤ x ∧ x ≤ 100000) (q : ∀ H', Ex H H' → Q (.int (R.b x)) H') : sp_WeightRule_greatest K [.ref a, .int x] H Q E := ⟨(a, x, R), rfl, ⟨hR, c⟩, q⟩
local macro_rules | `(tactic| walk_at "st") => `(tactic| first
  | ((with_reducible refine' u_greatest ?ha ?hb ?_); (case ha => walk_at "kn"); (case hb => constructor <;> omega); (refine' fun _ _ => ?_)))
/-! need_weight_rule, need_deed -/
def sp_need_weight_rule (K : PySem.W.Frag) : Sp := SV (fun i : Addr × Rl => [.ref i.1]) (fun i H => RuleI K H i.1 i.2) fun _ => .non
theorem ok_need_weight_rule (T : TX K mg) : Ok P w K mg base 1 (He.ga K "need_weight_rule") ["rule"] (sp_need_weight_rule K) := by
  obtain ⟨fd, F⟩ := T.F_need_weight_rule
  refine ⟨fd, okN F sc_need_weight_rule (by first | exact SV.len (fun _ => rfl) | exact PR.len (fun _ => rfl) | exact SJ.len (fun _ => rfl) | exact spEqB_len) (fun cdv A outer s H vs Q E hr h => ?_), F.bindsN (fun _ _ _ _ _ _ us hl => match us, hl with | [_], _ => rfl), F.kp⟩
  obtain ⟨⟨a, R⟩, rfl, hR, q⟩ := h
  dsimp only at hR q
  refine ⟨_, (pss_one (ps_if (pt_not (pt_val (pe_callB (call_isi) (by rfl) T.n_isinstance (by decide +kernel) (pa_cons (pv 0) (pa_cons (pe_glob (v := .ref (He.ga K "WeightRule")) (by rfl) T.g_WeightRule rfl) pa_nil))))) pss_never pss_nil)), ?_⟩
  walk_at "run"
  exact q _ (Ex.refl _)
theorem u_need_weight_rule {a : Addr} {R : Rl} {H : Hp} {Q : VK} {E : XK} (hR : RuleI K H a R) (q : ∀ H', Ex H H' → Q .non H') : sp_need_weight_rule K [.ref a] H Q E := ⟨(a, R), rfl, hR, q⟩
local macro_rules | `(tactic| walk_at "st") => `(tactic| first
  | ((with_reducible refine' u_need_weight_rule ?ha ?_); (case ha => walk_at "kn"); (refine' fun _ _ => ?_)))
def sp_need_deed (K : PySem.W.Frag) : Sp := SV (fun i : Bool => [.str (dS i)]) (fun i H => True) fun _ => .non
theorem ok_need_deed (T : TX K mg) : Ok P w K mg base 1 (He.ga K "need_deed") ["deed"] (sp_need_deed K) := by
  obtain ⟨fd, F⟩ := T.F_need_deed
  refine ⟨fd, okN F sc_need_deed (by first | exact SV.len (fun _ => rfl) | exact PR.len (fun _ => rfl) | exact SJ.len (fun _ => rfl) | exact spEqB_len) (fun cdv A outer s H vs Q E hr h => ?_), F.bindsN (fun _ _ _ _ _ _ us hl => match us, hl with | [_], _ => rfl), F.kp⟩
  obtain ⟨pt, rfl, -, q⟩ := h
  refine ⟨_, (pss_one (ps_if (PW.pt (pw_or (pt_not (pt_val (pe_callB (call_isi) (by rfl) T.n_isinstance (by decide +kernel) (pa_cons (pv 0) (pa_cons (pe_bltn (v := .ty "str") (by rfl) T.n_str (by decide +kernel) rfl) pa_nil))))) (pw_or1 (pt_cmpR op_notIn_seq (pv 0) (pe_glob (v := .ref (He.ga K "DEEDS")) (by rfl) T.g_DEEDS rfl) rfl)))) pss_never pss_nil)), ?_⟩
  walk_at "run"
  exact q _ (Ex.refl _)
theorem u_need_deed {pt : Bool} {H : Hp} {Q : VK} {E : XK} (q : ∀ H', Ex H H' → Q .non H') : sp_need_deed K [.str (dS pt)] H Q E := ⟨pt, rfl, trivial, q⟩
local macro_rules | `(tactic| walk_at "st") => `(tactic| first
  | ((with_reducible refine' u_need_deed  ?_); (refine' fun _ _ => ?_)))
/-! has_three -/
def has3 : Option Br → Bool
  | none => true
  | some .inn => true
  | _ => false
def sp_has_three (K : PySem.W.Frag) : Sp := SV (fun i : Addr × Option Br => [.ref i.1]) (fun i H => ∃ v, Fld K H i.1 "twice" v ∧ TO K H v i.2) fun i => .bl (has3 i.2)
theorem ok_has_three (T : TX K mg) : Ok P w K mg base 1 (He.ga K "has_three") ["case"] (sp_has_three K) := by
  obtain ⟨fd, F⟩ := T.F_has_three
  refine ⟨fd, okN F sc_has_three (by first | exact SV.len (fun _ => rfl) | exact PR.len (fun _ => rfl) | exact SJ.len (fun _ => rfl) | exact spEqB_len) (fun cdv A outer s H vs Q E hr h => ?_), F.bindsN (fun _ _ _ _ _ _ us hl => match us, hl with | [_], _ => rfl), F.kp⟩
  obtain ⟨⟨a, o⟩, rfl, ⟨v, h1, h2⟩, q⟩ := h
  dsimp only at h1 h2 q
  refine ⟨_, (pss_one (ps_ret (pe_or (pe_cmpR o_isN (pe_fld (pv 0) rfl) pe_non (nomark _)) (pe_one (pe_cmpR (op_eqD (room64 hr)) (pe_fld (pv 0) rfl) (pe_glob (v := .ref (He.ga K "INNER")) (by rfl) T.g_INNER rfl) (nomark _)))))), ?_⟩
  walk_at "run"
  cases o with
  | none =>
    refine iteT ?_
    exact q _ (Ex.refl _)
  | some b =>
    obtain ⟨a', rfl, h2⟩ := h2
    refine iteF ?_
    walk_at "go"
    have e : decide (b = .inn) = has3 (some b) := by cases b <;> rfl
    rw [e]
    exact q _ (Ex.refl _)
theorem u_has_three {a : Addr} {pt : Bool} {o w' : Option Br} {H : Hp} {Q : VK} {E : XK} (h : CaseAt K H a pt o w') (q : ∀ H', Ex H H' → Q (.bl (has3 w')) H') : sp_has_three K [.ref a] H Q E := ⟨(a, w'), rfl, h.w, q⟩
local macro_rules | `(tactic| walk_at "st") => `(tactic| first
  | ((with_reducible refine' u_has_three ?ha ?_); (case ha => walk_at "kn"); (refine' fun _ _ => ?_)))
/-! scaled, added -/
def sp_scaled (K : PySem.W.Frag) : Sp := PR (fun i : Int × Addr × List Int => [.int i.1, .ref i.2.1]) (fun i H => SqT K H i.2.1 (i.2.2.map V.int) ∧ (-1000 < i.1 ∧ i.1 < 1000) ∧ i.2.2.length < 1000) fun i _ v H' => ∃ t, v = .ref t ∧ SqT K H' t ((scaleF i.1 i.2.2).map V.int)
theorem ok_scaled (T : TX K mg) : Ok P w K mg base 1 (He.ga K "scaled") ["number", "form"] (sp_scaled K) := by
  obtain ⟨fd, F⟩ := T.F_scaled
  refine ⟨fd, okN F sc_scaled (by first | exact SV.len (fun _ => rfl) | exact PR.len (fun _ => rfl) | exact SJ.len (fun _ => rfl) | exact spEqB_len) (fun cdv A outer s H vs Q E hr h => ?_), F.bindsN (fun _ _ _ _ _ _ us hl => match us, hl with | [_, _], _ => rfl), F.kp⟩
  obtain ⟨⟨n, a, xs⟩, rfl, ⟨hS, c1, c2⟩, q⟩ := h
  dsimp only at hS c1 c2 q
  refine ⟨_, (pss_one (ps_ret (pe_callTy (c_tupleK K rfl) (by rfl) T.n_tuple (by decide +kernel) (pa_cons (pe_lc (own := [("part", 2)]) (by rfl) sc_scaled.nd (pi_tup (pv 1)) (blkOk_by (by rfl)) (fun _ _ _ _ _ => pg_name (i := 2) sc_scaled.nd rfl (by first | exact Or.inl rfl | exact Or.inr rfl)) (fun _ _ _ _ _ => pts_nil) (fun _ _ _ _ _ => (pe_op op_mul (pv 0) (pv 2)))) pa_nil)))), ?_⟩
  walk_at "run"
  refine lcT xs (c := V.int) (R := fun j y _ => y = .int (n * j)) (sz _ c2) hS ⟨fun _ _ _ _ _ h => h, fun j H' Qk hj e q => ?_⟩ fun D H' ys hD e hy a2 => ?_
  · refine k_name ⟨rfl, ?_⟩
    walk_at "go"
    exact q _ _ (Ex.refl _) rfl
  · have hys := a2.map
    subst hys
    walk_at "go"
    refine q _ _ ?_ ⟨_, rfl, ?_⟩
    · exact e.trans (by assumption)
    rw [show (scaleF n xs).map V.int = xs.map fun j => V.int (n * j) by simp [scaleF, Function.comp_def]]
    walk_at "kn"
theorem u_scaled {n : Int} {a : Addr} {xs : List Int} {H : Hp} {Q : VK} {E : XK} (hS : SqT K H a (xs.map V.int)) (c : (-1000 < n ∧ n < 1000) ∧ xs.length < 1000) (q : ∀ t H', Ex H H' → SqT K H' t ((scaleF n xs).map V.int) → Q (.ref t) H') : sp_scaled K [.int n, .ref a] H Q E :=
  ⟨(n, a, xs), rfl, ⟨hS, c.1, c.2⟩, fun v H' e ⟨t, ev, h⟩ => ev ▸ q t H' e h⟩

end
end M
namespace M
open PySem PySem.Spec PyProof.Rows L2 Evl
local macro_rules | `(tactic| walk_at "ar") => `(tactic| first | exact rfl | omega | (simp only [List.length_map, List.length_cons, List.length_nil] at *; omega) | decide)
local macro_rules | `(tactic| walk_at "ex") => `(tactic| first | with_reducible assumption | exact Ex.refl _ | (refine' Ex.trans ?a ?b; (case b => with_reducible assumption); (case a => walk_at "ex")))
local macro_rules | `(tactic| walk_at "exn") => `(tactic| first | with_reducible assumption | exact ExN.refl _ | (refine' ExN.trans ?a (ExN.of ?b); (case b => with_reducible assumption); (case a => walk_at "exn")) | (refine' ExN.trans ?a ?b; (case b => with_reducible assumption); (case a => walk_at "exn")))
local macro_rules | `(tactic| walk_at "ln") => `(tactic| first | exact rfl | omega | (simp only [scaleF, addF, List.length_map, List.length_zip, List.length_cons, List.length_nil] <;> omega))
local macro_rules | `(tactic| walk_at "kn") => `(tactic| first
  | with_reducible assumption
  | ((with_reducible refine' Fld.mono ?e ?m); (case e => with_reducible assumption); (case m => walk_at "kn"))
  | ((with_reducible refine' Ins.mono ?e ?m); (case e => with_reducible assumption); (case m => walk_at "kn"))
  | ((with_reducible refine' SqT.of ?m); (case m => walk_at "kn"))
  | ((with_reducible refine' SqL.of ?m); (case m => walk_at "kn"))
  | with_reducible exact kn_DEEDS (by assumption)
  | with_reducible exact kn_INNER (by assumption)
  | with_reducible exact kn_ONCE (by assumption)
  | with_reducible exact kn_TWICE (by assumption)
  | ((with_reducible refine' RB.mono ?e ?m); (case e => with_reducible assumption); (case m => walk_at "kn"))
  | ((with_reducible refine' RuleI.mono ?e ?m); (case e => with_reducible assumption); (case m => walk_at "kn"))
  | ((with_reducible refine' TestAt.mono ?e ?m); (case e => with_reducible assumption); (case m => walk_at "kn"))
  | ((with_reducible refine' TO_mono ?e ?m); (case e => with_reducible assumption); (case m => walk_at "kn"))
  | ((with_reducible refine' CaseAt.mono ?e ?m); (case e => with_reducible assumption); (case m => walk_at "kn"))
  | ((with_reducible refine' ExN.t ?e ?m); (case e => with_reducible assumption); (case m => walk_at "kn"))
  | ((with_reducible refine' ex_t ?e ?m); (case e => with_reducible assumption); (case m => walk_at "kn"))
  | ((with_reducible refine' ex_l ?e ?m); (case e => with_reducible assumption); (case m => walk_at "kn"))
  | ((with_reducible refine' Ex.at ?e ?m); (case e => with_reducible assumption); (case m => walk_at "kn"))
  | ((with_reducible refine' Mu.t ?e ?n ?m); (case e => with_reducible assumption); (case n => with_reducible assumption); (case m => walk_at "kn"))
  | ((with_reducible refine' Mu.lst ?e ?n ?m); (case e => with_reducible assumption); (case n => with_reducible assumption); (case m => walk_at "kn"))
  | ((with_reducible refine' Mu.fld ?e ?n ?m); (case e => with_reducible assumption); (case n => with_reducible assumption); (case m => walk_at "kn")))
local macro_rules | `(tactic| walk_at "st") => `(tactic| first
  | with_reducible refine k_seq ?_
  | with_reducible refine k_asg ?_
  | with_reducible refine k_ret ?_
  | with_reducible refine k_drop ?_
  | with_reducible refine k_ifS ?_
  | with_reducible refine k_name ?_
  | with_reducible refine k_next ?_
  | ((with_reducible refine' k_var ?hv ?_); case hv => exact rfl)
  | with_reducible refine k_c ?_
  | with_reducible refine k_fld ?_
  | ((with_reducible refine' k_fld2 ?hv ?_); case hv => walk_at "kn")
  | with_reducible refine k_op ?_
  | with_reducible refine k_un ?_
  | with_reducible refine k_add ?_
  | with_reducible refine k_sub ?_
  | with_reducible refine k_neg ?_
  | ((with_reducible refine' k_mul ?hv ?_); case hv => first | (left; constructor <;> omega) | (right; constructor <;> omega))
  | ((with_reducible refine' k_fdiv ?hv ?_); case hv => constructor <;> omega)
  | ((with_reducible refine' k_mod ?hv ?_); case hv => omega)
  | with_reducible refine k_lt ?_
  | with_reducible refine k_le ?_
  | with_reducible refine k_gt ?_
  | with_reducible refine k_ge ?_
  | with_reducible refine k_eqI ?_
  | with_reducible refine k_eqT ?_
  | with_reducible refine k_neI ?_
  | with_reducible refine k_isN_int ?_
  | with_reducible refine k_isN_ref ?_
  | with_reducible refine k_isN_non ?_
  | with_reducible refine k_notN_int ?_
  | with_reducible refine k_notN_ref ?_
  | with_reducible refine k_notN_non ?_
  | with_reducible refine k_test ?_
  | with_reducible refine k_B ?_
  | with_reducible refine k_bx ?_
  | with_reducible refine k_not ?_
  | with_reducible refine k_notV ?_
  | with_reducible refine k_and ?_
  | with_reducible refine k_or ?_
  | with_reducible refine k_andV ?_
  | with_reducible refine k_orV ?_
  | with_reducible refine k_if ?_
  | with_reducible refine k_chain ?_
  | with_reducible refine iteT ?_
  | with_reducible refine iteF ?_
  | with_reducible refine k_nil ?_
  | with_reducible refine k_cons ?_
  | with_reducible refine k_tup ?_
  | with_reducible refine k_lst ?_
  | with_reducible refine k_call ?_
  | with_reducible refine k_meth ?_
  | ((with_reducible refine' k_meth2 ?hv ?_); case hv => walk_at "kn")
  | with_reducible refine k_make ?_
  | with_reducible refine k_cb ?_
  | with_reducible refine k_min2 ?_
  | with_reducible refine k_max2 ?_
  | with_reducible refine k_int1 ?_
  | with_reducible refine k_int1b ?_
  | with_reducible refine k_abs1 ?_
  | ((with_reducible refine' k_gtup ?hv ?hw ?_); (case hv => walk_at "kn"); (case hw => rfl))
  | with_reducible refine k_gcons ?_
  | with_reducible refine k_gnil ?_
  | with_reducible refine k_isi_ii ?_
  | with_reducible refine k_isi_ib ?_
  | with_reducible refine k_isi_ss ?_
  | ((with_reducible refine' k_isi_tt ?hv ?_); case hv => walk_at "kn")
  | with_reducible refine iteNT ?_
  | with_reducible refine iteNF ?_
  | with_reducible refine k_cval ?_
  | ((with_reducible refine' k_cval2 ?hv ?_); case hv => exact kn_most (by assumption))
  | with_reducible refine k_lc ?_
  | with_reducible refine k_iT ?_
  | ((with_reducible refine' k_iT2 ?hv ?_); case hv => walk_at "kn")
  | with_reducible refine k_iL ?_
  | ((with_reducible refine' k_iL2 ?hv ?_); case hv => walk_at "kn")
  | with_reducible refine k_i1 ?_
  | ((with_reducible refine' k_i1a ?hv ?_); case hv => constructor <;> omega)
  | with_reducible refine k_i2 ?_
  | ((with_reducible refine' k_i2a ?hv ?_); case hv => refine ⟨?_, ?_, ?_, ?_⟩ <;> omega)
  | with_reducible refine k_iZ ?_
  | ((with_reducible refine' k_iZa ?hv ?hw ?_); (case hv => walk_at "kn"); (case hw => walk_at "kn"))
  | with_reducible refine k_iN ?_
  | ((with_reducible refine' k_lenT ?hv ?_); case hv => walk_at "kn")
  | ((with_reducible refine' k_lenL ?hv ?_); case hv => walk_at "kn")
  | ((with_reducible refine' k_ixT ?hv ?hw ?_); (case hv => walk_at "kn"); (case hw => rfl))
  | ((with_reducible refine' k_tupL ?hv ?_); (case hv => walk_at "kn"); (refine' fun _ _ _ _ _ => ?_))
  | ((with_reducible refine' k_tupT ?hv ?_); (case hv => walk_at "kn"))
  | ((with_reducible refine' k_new ?hv ?_); (case hv => (simp only [List.length_cons, List.length_nil]; exact sze _ (by omega))); (refine' fun _ _ _ _ _ => ?_))
  | ((with_reducible refine' k_isiW ?hT ?hv ?_); (case hT => assumption); (case hv => walk_at "kn"))
  | ((with_reducible refine' k_isiT ?hT ?hv ?_); (case hT => assumption); (case hv => walk_at "kn"))
  | ((with_reducible refine' k_isiC ?hT ?hv ?_); (case hT => assumption); (case hv => walk_at "kn"))
  | ((with_reducible refine' k_isiLT ?hv ?hw ?_); (case hv => walk_at "kn"); (case hw => walk_at "kn"))
  | ((with_reducible refine' k_isN_TO ?hv ?_); (case hv => walk_at "kn"))
  | ((with_reducible refine' k_notN_TO ?hv ?_); (case hv => walk_at "kn"))
  | ((with_reducible refine' k_notInDeeds ?hv ?_); (case hv => walk_at "kn"))
  | with_reducible refine k_eqPut ?_
  | ((refine' k_eqB .inn ?hv ?hw ?hx ?_); (case hv => walk_at "kn"); (case hw => walk_at "kn"); (case hx => rfl))
  | ((refine' k_eqB .lf ?hv ?hw ?hx ?_); (case hv => walk_at "kn"); (case hw => walk_at "kn"); (case hx => rfl))
  | ((refine' k_eqB .ls ?hv ?hw ?hx ?_); (case hv => walk_at "kn"); (case hw => walk_at "kn"); (case hx => rfl))
  | ((refine' k_eqB .ff ?hv ?hw ?hx ?_); (case hv => walk_at "kn"); (case hw => walk_at "kn"); (case hx => rfl))
  | ((refine' k_eqB .fs ?hv ?hw ?hx ?_); (case hv => walk_at "kn"); (case hw => walk_at "kn"); (case hx => rfl))
  | ((refine' k_eqB .tf ?hv ?hw ?hx ?_); (case hv => walk_at "kn"); (case hw => walk_at "kn"); (case hx => rfl))
  | ((with_reducible refine' k_yes ?hv ?_); (case hv => walk_at "ar"))
  | ((with_reducible refine' k_no ?hv ?_); (case hv => walk_at "ar"))
  | ((with_reducible refine' k_nyes ?hv ?_); (case hv => walk_at "ar"))
  | ((with_reducible refine' k_nno ?hv ?_); (case hv => walk_at "ar"))
  | with_reducible refine k_sfld ?_
  | ((with_reducible refine' k_ixL ?hv ?hw ?_); (case hv => walk_at "kn"); (case hw => rfl))
  | ((with_reducible refine' k_sumTu _ ?hv ?_); (case hv => walk_at "kn"))
  | ((with_reducible refine' u_is_integer  ?_); (refine' fun _ _ => ?_))
  | ((with_reducible refine' u_over ?ha ?_); (case ha => constructor <;> omega); (refine' fun _ _ => ?_))
  | ((with_reducible refine' u_is_within ?ha ?_); (case ha => constructor <;> omega); (refine' fun _ _ => ?_))
  | ((with_reducible refine' u_need_plus ?ha ?_); (case ha => constructor <;> omega); (refine' fun _ _ => ?_))
  | ((with_reducible refine' u_need_weight ?ha ?_); (case ha => constructor <;> omega); (refine' fun _ _ => ?_))
  | ((with_reducible refine' u_is_times ?ha ?hb ?_); (case ha => walk_at "kn"); (case hb => refine ⟨⟨?_, ?_⟩, ?_, ?_⟩ <;> omega); (refine' fun _ _ => ?_))
  | ((with_reducible refine' u_beside ?ha ?_); (case ha => walk_at "kn"); (refine' fun _ _ => ?_))
  | ((with_reducible refine' u_greatest ?ha ?hb ?_); (case ha => walk_at "kn"); (case hb => constructor <;> omega); (refine' fun _ _ => ?_))
  | ((with_reducible refine' u_need_weight_rule ?ha ?_); (case ha => walk_at "kn"); (refine' fun _ _ => ?_))
  | ((with_reducible refine' u_need_deed  ?_); (refine' fun _ _ => ?_))
  | ((with_reducible refine' u_has_three ?ha ?_); (case ha => walk_at "kn"); (refine' fun _ _ => ?_)))
local macro_rules | `(tactic| walk_at "go") => `(tactic| repeat (walk_at "st"))
local macro_rules | `(tactic| walk_at "run") => `(tactic| (dsimp only [cxK]; walk_at "go"))

section
variable {P : Program} {w : World} {K : PySem.W.Frag} {mg : Str → Option Value} {base : Heap}
local macro_rules | `(tactic| walk_at "st") => `(tactic| first
  | ((with_reducible refine' u_scaled ?ha ?hb ?_); (case ha => walk_at "kn"); (case hb => refine ⟨⟨?_, ?_⟩, ?_⟩ <;> (walk_at "ln")); (refine' fun _ _ _ _ => ?_)))
/-! added -/
def sp_added1 (K : PySem.W.Frag) : Sp := PR (fun i : Addr × Addr × Addr × List Int × List Int => [.ref i.1]) (fun i H => SqT K H i.1 [.ref i.2.1, .ref i.2.2.1] ∧ SqT K H i.2.1 (i.2.2.2.1.map V.int) ∧ SqT K H i.2.2.1 (i.2.2.2.2.map V.int) ∧ i.2.2.2.1.length = i.2.2.2.2.length ∧ i.2.2.2.1.length < 1000)
  fun i _ v H' => ∃ t, v = .ref t ∧ SqT K H' t ((addF i.2.2.2.1 i.2.2.2.2).map V.int)
def sp_added (K : PySem.W.Frag) : Sp := fun vs H Q E => ∃ ws rest, vs = ws ++ rest ∧ ws.length = ([] : List Str).length ∧ rest.length ≤ sizeLine ∧ ∀ p, H p = Option.none → sp_added1 K (ws ++ [V.ref p]) (upd H p (.tup rest)) Q E
theorem ok_added (T : TX K mg) : FnR P w K mg base CX0 1 (He.ga K "added") (sp_added K) ∧ PySem.W.keepIn K (.ref (He.ga K "added")) = true := by
  obtain ⟨fd, F⟩ := T.F_added
  refine ⟨?_, F.kp⟩
  obtain ⟨oc, od, dV, kV, doc, pm, an, cdv, ct, osl, rfl, lk, hcd, hD, hK⟩ := F.ex
  rcases hD with ⟨_, rfl⟩ | ⟨e, _⟩
  · refine StX.fn_star (pv := "forms") (ps := []) (N := ["forms", "column"]) lk hcd sc_added StX.cxUp_none (fun us rest hl => ?_) (fun A outer s H vs Q E hr h => ?_)
    · match us, rest, hl with
      | [], [], _ => rfl
      | [], r :: rs, _ => rfl
    · obtain ⟨⟨p, a, b, xs, ys⟩, rfl, ⟨h1, h2, h3, hl, hn⟩, q⟩ := h
      dsimp only at h1 h2 h3 hl hn q
      refine (fun ⟨t, h1, h2⟩ => ⟨t, h1.nox, h2⟩ : (∃ t, PSs (cxOf CX0 P w K mg base ["forms", "column"] "added" (defScope s_added) (He.ga K "added") cdv A outer s H E).nox (defBody s_added) t ∧ t { nx := fun _ H' => Q .non H', rt := Q } (L2.start ["forms", "column"] [V.ref p]) H) → _) ?_
      refine ⟨_, (pss_one (ps_ret (pe_callTy (c_tupleK K rfl) (by rfl) T.n_tuple (by decide +kernel) (pa_cons (pe_lc (own := [("column", 1)]) (by rfl) sc_added.nd (MZ.pi_zipS (by rfl) T.n_zip (pv 0)) (blkOk_by (by rfl)) (fun _ _ _ _ _ => pg_name (i := 1) sc_added.nd rfl (by first | exact Or.inl rfl | exact Or.inr rfl)) (fun _ _ _ _ _ => pts_nil) (fun _ _ _ _ _ => (pe_callB (c_sumTK K rfl rfl) (by rfl) T.n_sum (by decide +kernel) (pa_cons (pv 1) pa_nil)))) pa_nil)))), ?_⟩
      walk_at "run"
      refine k_iNa h1 h2 h3 ?_
      refine lcN (xs.zip ys) (c := fun j => .int j.1) (d := fun j => .int j.2) (R := fun j y _ => y = .int (j.1 + j.2)) (sz _ (by rw [List.length_zip]; omega)) (by rw [zip_fst hl.symm]; exact h2) (by rw [zip_snd hl.symm]; exact h3)
        ⟨fun _ _ _ _ _ h => h, fun j T' H' Qk hj e hT q => ?_⟩ fun D H' zs hD e hy a2 => ?_
      · refine k_name ⟨rfl, ?_⟩
        walk_at "go"
        refine k_sumTu [j.1, j.2] (SqT.of hT) ?_
        refine q _ _ (Ex.refl _) ?_
        simp
      · have hys := a2.map
        subst hys
        walk_at "go"
        refine q _ _ ?_ ⟨_, rfl, ?_⟩
        · exact e.trans (by assumption)
        · rw [show (addF xs ys).map V.int = (xs.zip ys).map fun j => V.int (j.1 + j.2) by simp [addF, Function.comp_def]]
          walk_at "kn"
  · exact absurd rfl e
theorem u_added {a b : Addr} {xs ys : List Int} {H : Hp} {Q : VK} {E : XK} (h1 : SqT K H a (xs.map V.int)) (h2 : SqT K H b (ys.map V.int)) (c : xs.length = ys.length ∧ xs.length < 1000) (q : ∀ t H', Ex H H' → SqT K H' t ((addF xs ys).map V.int) → Q (.ref t) H') : sp_added K [.ref a, .ref b] H Q E :=
  ⟨[], [.ref a, .ref b], rfl, rfl, sze 2 (by omega), fun p hp => ⟨(p, a, b, xs, ys), rfl, ⟨SqT.of upd_same, ex_t (Ex.new hp) h1, ex_t (Ex.new hp) h2, c.1, c.2⟩, fun v H' e ⟨t, ev, h⟩ => ev ▸ q t H' ((Ex.new hp).trans e) h⟩⟩
local macro_rules | `(tactic| walk_at "st") => `(tactic| first
  | ((with_reducible refine' u_added ?ha ?hb ?hc ?_); (case ha => walk_at "kn"); (case hb => walk_at "kn"); (case hc => constructor <;> (walk_at "ln")); (refine' fun _ _ _ _ => ?_)))
/-! Test -/
def sp_Test_init (K : PySem.W.Frag) : Sp := SJ (He.ga K "Test") (fun i : Addr × List Int × Int => [.ref i.1, .int i.2.2]) (fun i H => SqT K H i.1 (i.2.1.map V.int) ∧ (1 ≤ i.2.1.length ∧ i.2.1.length ≤ 5) ∧ ∀ p ∈ i.2.1, -100000 < p ∧ p < 100000) fun i x H' => TestAt K H' x i.2.1 i.2.2
theorem ok_Test_init (T : TX K mg) : Ok P w K mg base 3 (He.ma K (He.ga K "Test") "__init__") ["self", "parts", "bound"] (sp_Test_init K) := by
  obtain ⟨fd, F⟩ := T.F_Test_init
  obtain ⟨_, G_is_integer, b_is_integer, k_is_integer⟩ := ok_is_integer (P := P) (w := w) (base := base) T
  refine ⟨fd, okN F sc_Test_init (by first | exact SV.len (fun _ => rfl) | exact PR.len (fun _ => rfl) | exact SJ.len (fun _ => rfl) | exact spEqB_len) (fun cdv A outer s H vs Q E hr h => ?_), F.bindsN (fun _ _ _ _ _ _ us hl => match us, hl with | [_, _, _], _ => rfl), F.kp⟩
  obtain ⟨⟨a, ps, b⟩, x, dx, rfl, hx, ⟨hS, hn, hm⟩, q⟩ := h
  dsimp only at hS hn hm q
  refine ⟨_, (pss_cons (ps_if (PW.pt (pw_or (pt_not (pt_val (pe_callB (call_isiT) (by rfl) T.n_isinstance (by decide +kernel) (pa_cons (pv 1) (pa_cons (pe_tup (pa_cons (pe_bltn (v := .ty "list") (by rfl) T.n_list (by decide +kernel) rfl) (pa_cons (pe_bltn (v := .ty "tuple") (by rfl) T.n_tuple (by decide +kernel) rfl) pa_nil))) pa_nil))))) (pw_or1 (pt_not (pt_chain op_le op_le pe_int (pe_callB (c_lenS) (by rfl) T.n_len (by decide +kernel) (pa_cons (pv 1) pa_nil)) (pe_glob (v := .int 5) (by rfl) T.g_MOST_PARTS.choose_spec ⟨_, rfl⟩)))))) pss_never pss_nil)
      (pss_cons (ps_if (pt_not (pt_val (pe_callB (cr_all rfl) (by rfl) T.n_all (by decide +kernel) (pa_cons (pe_lc (own := [("part", 3)]) (by rfl) sc_Test_init.nd (pi_tup (pv 1)) (blkOk_by (by rfl)) (fun _ _ _ _ _ => pg_name (i := 3) sc_Test_init.nd rfl (by first | exact Or.inl rfl | exact Or.inr rfl)) (fun _ _ _ _ _ => pts_nil) (fun _ _ _ _ _ => (pe_call G_is_integer (hr.mono (by decide)) (by rfl) T.g_is_integer k_is_integer b_is_integer .nil pass0 (pa_cons (pv 3) pa_nil)))) pa_nil)))) pss_never pss_nil)
      (pss_cons (ps_if (pt_not (pt_val (pe_call G_is_integer (hr.mono (by decide)) (by rfl) T.g_is_integer k_is_integer b_is_integer .nil pass0 (pa_cons (pv 2) pa_nil)))) pss_never pss_nil)
      (pss_cons (ps_fld (pv 0) (pe_callTy (c_tupleK K rfl) (by rfl) T.n_tuple (by decide +kernel) (pa_cons (pv 1) pa_nil)) rfl)
      (pss_one (ps_fld (pv 0) (pv 2) rfl)))))), ?_⟩
  walk_at "run"
  refine lcT ps (c := V.int) (R := fun j y _ => y = .bl true) (sz _ (by omega)) (by walk_at "kn") ⟨fun _ _ _ _ _ h => h, fun j H' Qk hj e q => ?_⟩ fun D H' ys hD e hy a2 => ?_
  · refine k_name ⟨rfl, ?_⟩
    walk_at "go"
    refine q _ _ ?_ rfl
    assumption
  · have hys := a2.map
    subst hys
    walk_at "go"
    refine k_all1 ps (SqL.of hy) ?_
    walk_at "go"
    refine' k_sf ?ha1 T.c_Test T.na_Test_parts ?hb1 ?hc1
    case ha1 => walk_at "kn"
    case hb1 => exact (show 0 < 1000 by omega)
    refine' fun H1 m1 hx1 => ?_
    walk_at "go"
    refine' k_sf ?ha2 T.c_Test T.na_Test_bound ?hb2 ?hc2
    case ha2 => walk_at "kn"
    case hb2 => exact (show 1 < 1000 by omega)
    refine' fun H2 m2 hx2 => ?_
    have m0 : Mu x H _ := ((Ex.mu (by assumption)).trans (Ex.mu e)).trans (Ex.mu (by assumption))
    refine q _ (m0.trans (m1.trans m2)) ⟨⟨_, _, hx2, rfl⟩, ⟨_, fld_of hx2 T.c_Test T.na_Test_parts rfl, ?_⟩, fld_of hx2 T.c_Test T.na_Test_bound rfl, hn, hm⟩
    exact (m0.trans (m1.trans m2)).t hx hS
theorem u_mk_Test {F : Addr → Hp → Prop} {H : Hp} {E : XK} {a : Addr} {ps : List Int} {b : Int} (h1 : SqT K H a (ps.map V.int)) (h2 : (1 ≤ ps.length ∧ ps.length ≤ 5) ∧ ∀ p ∈ ps, -100000 < p ∧ p < 100000) (k : ∀ x H', Ex H H' → TestAt K H' x ps b → F x H') :
    ∀ x dx, H x = none → H dx = none → dx ≠ x → sp_Test_init K (.ref x :: [.ref a, .int b]) (upd (upd H dx (.own x)) x (.ins (He.ga K "Test") dx [])) (fun v H2 => v = .non ∧ F x H2) E :=
  SJ.make (a, ps, b) (fun H' e => ⟨ex_t e h1, h2.1, h2.2⟩) fun x H' e _ t => k x H' e t
/-! Case -/
def sp_Case_init (K : PySem.W.Frag) : Sp := SJ (He.ga K "Case") (fun i : Bool × Option Br × Option Br × V × V => [.str (dS i.1), i.2.2.2.1, i.2.2.2.2]) (fun i H => TO K H i.2.2.2.1 i.2.1 ∧ TO K H i.2.2.2.2 i.2.2.1) fun i x H' => CaseAt K H' x i.1 i.2.1 i.2.2.1
theorem ok_Case_init (T : TX K mg) : Ok P w K mg base 1 (He.ma K (He.ga K "Case") "__init__") ["self", "deed", "once", "twice"] (sp_Case_init K) := by
  obtain ⟨fd, F⟩ := T.F_Case_init
  refine ⟨fd, okN F sc_Case_init (by first | exact SV.len (fun _ => rfl) | exact PR.len (fun _ => rfl) | exact SJ.len (fun _ => rfl) | exact spEqB_len) (fun cdv A outer s H vs Q E hr h => ?_), F.bindsN (fun _ _ _ _ _ _ us hl => match us, hl with | [_, _, _, _], _ => rfl), F.kp⟩
  obtain ⟨⟨pt, o, w', vo, vw⟩, x, dx, rfl, hx, ⟨h1, h2⟩, q⟩ := h
  dsimp only at h1 h2 q
  refine ⟨_, (pss_cons (ps_fld (pv 0) (pv 1) rfl)
      (pss_cons (ps_fld (pv 0) (pv 2) rfl)
      (pss_one (ps_fld (pv 0) (pv 3) rfl)))), ?_⟩
  walk_at "run"
  refine k_sf hx T.c_Case T.na_Case_deed (show 0 < 1000 by omega) fun H1 m1 hx1 => ?_
  walk_at "go"
  refine k_sf hx1 T.c_Case T.na_Case_once (show 1 < 1000 by omega) fun H2 m2 hx2 => ?_
  walk_at "go"
  refine k_sf hx2 T.c_Case T.na_Case_twice (show 2 < 1000 by omega) fun H3 m3 hx3 => ?_
  refine q _ ((m1.trans m2).trans m3) ⟨⟨_, _, hx3⟩, fld_of hx3 T.c_Case T.na_Case_deed rfl, ⟨_, fld_of hx3 T.c_Case T.na_Case_once rfl, ?_⟩, ⟨_, fld_of hx3 T.c_Case T.na_Case_twice rfl, ?_⟩⟩
  · exact m3.to hx2 (m2.to hx1 (m1.to hx h1))
  · exact m3.to hx2 (m2.to hx1 (m1.to hx h2))
theorem u_mk_Case {F : Addr → Hp → Prop} {H : Hp} {E : XK} {pt : Bool} {o w' : Option Br} {vo vw : V} (h1 : TO K H vo o) (h2 : TO K H vw w') (k : ∀ x H', Ex H H' → CaseAt K H' x pt o w' → F x H') :
    ∀ x dx, H x = none → H dx = none → dx ≠ x → sp_Case_init K (.ref x :: [.str (dS pt), vo, vw]) (upd (upd H dx (.own x)) x (.ins (He.ga K "Case") dx [])) (fun v H2 => v = .non ∧ F x H2) E :=
  SJ.make (pt, o, w', vo, vw) (fun H' e => ⟨TO_mono e h1, TO_mono e h2⟩) fun x H' e _ t => k x H' e t
/-! Test.amount, Test.__call__ -/
def sp_Test_amount (K : PySem.W.Frag) : Sp := SV (fun i : Addr × Addr × List Int × Int × List Int => [.ref i.1, .ref i.2.1]) (fun i H => TestAt K H i.1 i.2.2.1 i.2.2.2.1 ∧ SqT K H i.2.1 (i.2.2.2.2.map V.int) ∧ i.2.2.2.2.length = i.2.2.1.length) fun i => .int (dot i.2.2.1 i.2.2.2.2)
theorem ok_Test_amount (T : TX K mg) : Ok P w K mg base 3 (He.ma K (He.ga K "Test") "amount") ["self", "numbers"] (sp_Test_amount K) := by
  obtain ⟨fd, F⟩ := T.F_Test_amount
  obtain ⟨_, G_is_integer, b_is_integer, k_is_integer⟩ := ok_is_integer (P := P) (w := w) (base := base) T
  refine ⟨fd, okN F sc_Test_amount (by first | exact SV.len (fun _ => rfl) | exact PR.len (fun _ => rfl) | exact SJ.len (fun _ => rfl) | exact spEqB_len) (fun cdv A outer s H vs Q E hr h => ?_), F.bindsN (fun _ _ _ _ _ _ us hl => match us, hl with | [_, _], _ => rfl), F.kp⟩
  obtain ⟨⟨a, n, ps, b, xs⟩, rfl, ⟨⟨hc, ⟨tp, hp, hpS⟩, hb, hn, hm⟩, hS, hl⟩, q⟩ := h
  dsimp only at hS hl q hc hp hpS hb hn hm
  refine ⟨_, (pss_cons (ps_if (PW.pt (pw_or (pt_not (pt_val (pe_callB (call_isiT) (by rfl) T.n_isinstance (by decide +kernel) (pa_cons (pv 1) (pa_cons (pe_tup (pa_cons (pe_bltn (v := .ty "list") (by rfl) T.n_list (by decide +kernel) rfl) (pa_cons (pe_bltn (v := .ty "tuple") (by rfl) T.n_tuple (by decide +kernel) rfl) pa_nil))) pa_nil))))) (pw_or1 (pt_cmpR op_ne (pe_callB (c_lenS) (by rfl) T.n_len (by decide +kernel) (pa_cons (pv 1) pa_nil)) (pe_callB (c_lenS) (by rfl) T.n_len (by decide +kernel) (pa_cons (pe_fld (pv 0) rfl) pa_nil)) (nomark _))))) pss_never pss_nil)
      (pss_cons (ps_if (pt_not (pt_val (pe_callB (cr_all rfl) (by rfl) T.n_all (by decide +kernel) (pa_cons (pe_lc (own := [("number", 3)]) (by rfl) sc_Test_amount.nd (pi_tup (pv 1)) (blkOk_by (by rfl)) (fun _ _ _ _ _ => pg_name (i := 3) sc_Test_amount.nd rfl (by first | exact Or.inl rfl | exact Or.inr rfl)) (fun _ _ _ _ _ => pts_nil) (fun _ _ _ _ _ => (pe_call G_is_integer (hr.mono (by decide)) (by rfl) T.g_is_integer k_is_integer b_is_integer .nil pass0 (pa_cons (pv 3) pa_nil)))) pa_nil)))) pss_never pss_nil)
      (pss_one (ps_ret (pe_callB (cr_sum rfl) (by rfl) T.n_sum (by decide +kernel) (pa_cons (pe_lc (own := [("part", 2), ("number", 3)]) (by rfl) sc_Test_amount.nd (RZ.pi_zipA (by rfl) T.n_zip (pa_cons (pe_fld (pv 0) rfl) (pa_cons (pv 1) pa_nil))) (blkOk_by (by rfl)) (fun _ _ _ _ _ => pg_tupK K 2 rfl rfl (pgs_cons (pg_name (i := 2) sc_Test_amount.nd rfl (by first | exact Or.inl rfl | exact Or.inr rfl)) (pgs_cons (pg_name (i := 3) sc_Test_amount.nd rfl (by first | exact Or.inl rfl | exact Or.inr rfl)) pgs_nil)) rfl rfl) (fun _ _ _ _ _ => pts_nil) (fun _ _ _ _ _ => (pe_op op_mul (pv 2) (pv 3)))) pa_nil)))))), ?_⟩
  walk_at "run"
  refine lcT xs (c := V.int) (R := fun j y _ => y = .bl true) (sz _ (by omega)) (by walk_at "kn") ⟨fun _ _ _ _ _ h => h, fun j H' Qk hj e q => ?_⟩ fun D H' ys hD e hy a2 => ?_
  · refine k_name ⟨rfl, ?_⟩
    walk_at "go"
    refine q _ _ ?_ rfl
    assumption
  · have hys := a2.map
    subst hys
    walk_at "go"
    refine k_all1 xs (SqL.of hy) ?_
    walk_at "go"
    refine lcZ (ps.zip xs) (c := fun j => .int j.1) (d := fun j => .int j.2) (R := fun j y _ => y = .int (j.1 * j.2)) (sz _ (by rw [List.length_zip]; omega)) (by rw [zip_fst hl]; walk_at "kn") (by rw [zip_snd hl]; walk_at "kn")
      ⟨fun _ _ _ _ _ h => h, fun j T' H' Qk hj e hT q => ?_⟩ fun D H'' zs hD e' hz a3 => ?_
    · have hmm := hm j.1 (List.of_mem_zip hj).1
      refine k_gtup (SqT.of hT) rfl ?_
      walk_at "go"
      refine ⟨rfl, ?_⟩
      walk_at "go"
      exact q _ _ (Ex.refl _) rfl
    · have hys := a3.map
      subst hys
      walk_at "go"
      refine k_sum ((ps.zip xs).map fun j => j.1 * j.2) ?_ ?_
      · rw [List.map_map]
        exact SqL.of hz
      · refine q _ ?_
        exact ((Ex.trans (by assumption) e).trans e')
theorem u_amount {a n : Addr} {ps xs : List Int} {b : Int} {H : Hp} {Q : VK} {E : XK} (h1 : TestAt K H a ps b) (h2 : SqT K H n (xs.map V.int)) (hl : xs.length = ps.length) (q : ∀ H', Ex H H' → Q (.int (dot ps xs)) H') : sp_Test_amount K [.ref a, .ref n] H Q E := ⟨(a, n, ps, b, xs), rfl, ⟨h1, h2, hl⟩, q⟩
local macro_rules | `(tactic| walk_at "st") => `(tactic| first
  | ((with_reducible refine' u_amount ?ha ?hb ?hc ?_); (case ha => walk_at "kn"); (case hb => walk_at "kn"); (case hc => assumption); (refine' fun _ _ => ?_)))
def sp_Test_call (K : PySem.W.Frag) : Sp := SV (fun i : Addr × Addr × List Int × Int × List Int => [.ref i.1, .ref i.2.1]) (fun i H => TestAt K H i.1 i.2.2.1 i.2.2.2.1 ∧ SqT K H i.2.1 (i.2.2.2.2.map V.int) ∧ i.2.2.2.2.length = i.2.2.1.length) fun i => .bl (decide (i.2.2.2.1 ≤ dot i.2.2.1 i.2.2.2.2))
theorem ok_Test_call (T : TX K mg) : Ok P w K mg base 5 (He.ma K (He.ga K "Test") "__call__") ["self", "numbers"] (sp_Test_call K) := by
  obtain ⟨fd, F⟩ := T.F_Test_call
  obtain ⟨_, G_Test_amount, b_Test_amount, k_Test_amount⟩ := ok_Test_amount (P := P) (w := w) (base := base) T
  refine ⟨fd, okN F sc_Test_call (by first | exact SV.len (fun _ => rfl) | exact PR.len (fun _ => rfl) | exact SJ.len (fun _ => rfl) | exact spEqB_len) (fun cdv A outer s H vs Q E hr h => ?_), F.bindsN (fun _ _ _ _ _ _ us hl => match us, hl with | [_, _], _ => rfl), F.kp⟩
  obtain ⟨⟨a, n, ps, b, xs⟩, rfl, ⟨ht, hS, hl⟩, q⟩ := h
  dsimp only at hS hl q ht
  have hc := ht.c
  have hb := ht.b
  refine ⟨_, (pss_one (ps_ret (pe_cmpR op_ge (pe_meth (pv 0) T.c_Test T.m_Test_amount G_Test_amount (hr.mono (by decide)) b_Test_amount .nil pass0 (pa_cons (pv 1) pa_nil)) (pe_fld (pv 0) rfl) (nomark _)))), ?_⟩
  walk_at "run"
  refine q _ ?_
  assumption

end
end M
namespace M
open PySem PySem.Spec PyProof.Rows L2 Evl
local macro_rules | `(tactic| walk_at "ar") => `(tactic| first | exact rfl | omega | (simp only [List.length_map, List.length_cons, List.length_nil] at *; omega) | decide)
local macro_rules | `(tactic| walk_at "ex") => `(tactic| first | with_reducible assumption | exact Ex.refl _ | (refine' Ex.trans ?a ?b; (case b => with_reducible assumption); (case a => walk_at "ex")))
local macro_rules | `(tactic| walk_at "exn") => `(tactic| first | with_reducible assumption | exact ExN.refl _ | (refine' ExN.trans ?a (ExN.of ?b); (case b => with_reducible assumption); (case a => walk_at "exn")) | (refine' ExN.trans ?a ?b; (case b => with_reducible assumption); (case a => walk_at "exn")))
local macro_rules | `(tactic| walk_at "ln") => `(tactic| first | exact rfl | omega | (simp only [scaleF, addF, List.length_map, List.length_zip, List.length_cons, List.length_nil] <;> omega))
local macro_rules | `(tactic| walk_at "kn") => `(tactic| first
  | with_reducible assumption
  | ((with_reducible refine' Fld.mono ?e ?m); (case e => with_reducible assumption); (case m => walk_at "kn"))
  | ((with_reducible refine' Ins.mono ?e ?m); (case e => with_reducible assumption); (case m => walk_at "kn"))
  | ((with_reducible refine' SqT.of ?m); (case m => walk_at "kn"))
  | ((with_reducible refine' SqL.of ?m); (case m => walk_at "kn"))
  | with_reducible exact kn_DEEDS (by assumption)
  | with_reducible exact kn_INNER (by assumption)
  | with_reducible exact kn_ONCE (by assumption)
  | with_reducible exact kn_TWICE (by assumption)
  | ((with_reducible refine' RB.mono ?e ?m); (case e => with_reducible assumption); (case m => walk_at "kn"))
  | ((with_reducible refine' RuleI.mono ?e ?m); (case e => with_reducible assumption); (case m => walk_at "kn"))
  | ((with_reducible refine' TestAt.mono ?e ?m); (case e => with_reducible assumption); (case m => walk_at "kn"))
  | ((with_reducible refine' TO_mono ?e ?m); (case e => with_reducible assumption); (case m => walk_at "kn"))
  | ((with_reducible refine' CaseAt.mono ?e ?m); (case e => with_reducible assumption); (case m => walk_at "kn"))
  | ((with_reducible refine' ExN.t ?e ?m); (case e => with_reducible assumption); (case m => walk_at "kn"))
  | ((with_reducible refine' ex_t ?e ?m); (case e => with_reducible assumption); (case m => walk_at "kn"))
  | ((with_reducible refine' ex_l ?e ?m); (case e => with_reducible assumption); (case m => walk_at "kn"))
  | ((with_reducible refine' Ex.at ?e ?m); (case e => with_reducible assumption); (case m => walk_at "kn"))
  | ((with_reducible refine' Mu.t ?e ?n ?m); (case e => with_reducible assumption); (case n => with_reducible assumption); (case m => walk_at "kn"))
  | ((with_reducible refine' Mu.lst ?e ?n ?m); (case e => with_reducible assumption); (case n => with_reducible assumption); (case m => walk_at "kn"))
  | ((with_reducible refine' Mu.fld ?e ?n ?m); (case e => with_reducible assumption); (case n => with_reducible assumption); (case m => walk_at "kn")))
local macro_rules | `(tactic| walk_at "st") => `(tactic| first
  | with_reducible refine k_seq ?_
  | with_reducible refine k_asg ?_
  | with_reducible refine k_ret ?_
  | with_reducible refine k_drop ?_
  | with_reducible refine k_ifS ?_
  | with_reducible refine k_name ?_
  | with_reducible refine k_next ?_
  | ((with_reducible refine' k_var ?hv ?_); case hv => exact rfl)
  | with_reducible refine k_c ?_
  | with_reducible refine k_fld ?_
  | ((with_reducible refine' k_fld2 ?hv ?_); case hv => walk_at "kn")
  | with_reducible refine k_op ?_
  | with_reducible refine k_un ?_
  | with_reducible refine k_add ?_
  | with_reducible refine k_sub ?_
  | with_reducible refine k_neg ?_
  | ((with_reducible refine' k_mul ?hv ?_); case hv => first | (left; constructor <;> omega) | (right; constructor <;> omega))
  | ((with_reducible refine' k_fdiv ?hv ?_); case hv => constructor <;> omega)
  | ((with_reducible refine' k_mod ?hv ?_); case hv => omega)
  | with_reducible refine k_lt ?_
  | with_reducible refine k_le ?_
  | with_reducible refine k_gt ?_
  | with_reducible refine k_ge ?_
  | with_reducible refine k_eqI ?_
  | with_reducible refine k_eqT ?_
  | with_reducible refine k_neI ?_
  | with_reducible refine k_isN_int ?_
  | with_reducible refine k_isN_ref ?_
  | with_reducible refine k_isN_non ?_
  | with_reducible refine k_notN_int ?_
  | with_reducible refine k_notN_ref ?_
  | with_reducible refine k_notN_non ?_
  | with_reducible refine k_test ?_
  | with_reducible refine k_B ?_
  | with_reducible refine k_bx ?_
  | with_reducible refine k_not ?_
  | with_reducible refine k_notV ?_
  | with_reducible refine k_and ?_
  | with_reducible refine k_or ?_
  | with_reducible refine k_andV ?_
  | with_reducible refine k_orV ?_
  | with_reducible refine k_if ?_
  | with_reducible refine k_chain ?_
  | with_reducible refine iteT ?_
  | with_reducible refine iteF ?_
  | with_reducible refine k_nil ?_
  | with_reducible refine k_cons ?_
  | with_reducible refine k_tup ?_
  | with_reducible refine k_lst ?_
  | with_reducible refine k_call ?_
  | with_reducible refine k_meth ?_
  | ((with_reducible refine' k_meth2 ?hv ?_); case hv => walk_at "kn")
  | with_reducible refine k_make ?_
  | with_reducible refine k_cb ?_
  | with_reducible refine k_min2 ?_
  | with_reducible refine k_max2 ?_
  | with_reducible refine k_int1 ?_
  | with_reducible refine k_int1b ?_
  | with_reducible refine k_abs1 ?_
  | ((with_reducible refine' k_gtup ?hv ?hw ?_); (case hv => walk_at "kn"); (case hw => rfl))
  | with_reducible refine k_gcons ?_
  | with_reducible refine k_gnil ?_
  | with_reducible refine k_isi_ii ?_
  | with_reducible refine k_isi_ib ?_
  | with_reducible refine k_isi_ss ?_
  | ((with_reducible refine' k_isi_tt ?hv ?_); case hv => walk_at "kn")
  | with_reducible refine iteNT ?_
  | with_reducible refine iteNF ?_
  | with_reducible refine k_cval ?_
  | ((with_reducible refine' k_cval2 ?hv ?_); case hv => exact kn_most (by assumption))
  | with_reducible refine k_lc ?_
  | with_reducible refine k_iT ?_
  | ((with_reducible refine' k_iT2 ?hv ?_); case hv => walk_at "kn")
  | with_reducible refine k_iL ?_
  | ((with_reducible refine' k_iL2 ?hv ?_); case hv => walk_at "kn")
  | with_reducible refine k_i1 ?_
  | ((with_reducible refine' k_i1a ?hv ?_); case hv => constructor <;> omega)
  | with_reducible refine k_i2 ?_
  | ((with_reducible refine' k_i2a ?hv ?_); case hv => refine ⟨?_, ?_, ?_, ?_⟩ <;> omega)
  | with_reducible refine k_iZ ?_
  | ((with_reducible refine' k_iZa ?hv ?hw ?_); (case hv => walk_at "kn"); (case hw => walk_at "kn"))
  | with_reducible refine k_iN ?_
  | ((with_reducible refine' k_lenT ?hv ?_); case hv => walk_at "kn")
  | ((with_reducible refine' k_lenL ?hv ?_); case hv => walk_at "kn")
  | ((with_reducible refine' k_ixT ?hv ?hw ?_); (case hv => walk_at "kn"); (case hw => rfl))
  | ((with_reducible refine' k_tupL ?hv ?_); (case hv => walk_at "kn"); (refine' fun _ _ _ _ _ => ?_))
  | ((with_reducible refine' k_tupT ?hv ?_); (case hv => walk_at "kn"))
  | ((with_reducible refine' k_new ?hv ?_); (case hv => (simp only [List.length_cons, List.length_nil]; exact sze _ (by omega))); (refine' fun _ _ _ _ _ => ?_))
  | ((with_reducible refine' k_isiW ?hT ?hv ?_); (case hT => assumption); (case hv => walk_at "kn"))
  | ((with_reducible refine' k_isiT ?hT ?hv ?_); (case hT => assumption); (case hv => walk_at "kn"))
  | ((with_reducible refine' k_isiC ?hT ?hv ?_); (case hT => assumption); (case hv => walk_at "kn"))
  | ((with_reducible refine' k_isiLT ?hv ?hw ?_); (case hv => walk_at "kn"); (case hw => walk_at "kn"))
  | ((with_reducible refine' k_isN_TO ?hv ?_); (case hv => walk_at "kn"))
  | ((with_reducible refine' k_notN_TO ?hv ?_); (case hv => walk_at "kn"))
  | ((with_reducible refine' k_notInDeeds ?hv ?_); (case hv => walk_at "kn"))
  | with_reducible refine k_eqPut ?_
  | ((refine' k_eqB .inn ?hv ?hw ?hx ?_); (case hv => walk_at "kn"); (case hw => walk_at "kn"); (case hx => rfl))
  | ((refine' k_eqB .lf ?hv ?hw ?hx ?_); (case hv => walk_at "kn"); (case hw => walk_at "kn"); (case hx => rfl))
  | ((refine' k_eqB .ls ?hv ?hw ?hx ?_); (case hv => walk_at "kn"); (case hw => walk_at "kn"); (case hx => rfl))
  | ((refine' k_eqB .ff ?hv ?hw ?hx ?_); (case hv => walk_at "kn"); (case hw => walk_at "kn"); (case hx => rfl))
  | ((refine' k_eqB .fs ?hv ?hw ?hx ?_); (case hv => walk_at "kn"); (case hw => walk_at "kn"); (case hx => rfl))
  | ((refine' k_eqB .tf ?hv ?hw ?hx ?_); (case hv => walk_at "kn"); (case hw => walk_at "kn"); (case hx => rfl))
  | ((with_reducible refine' k_yes ?hv ?_); (case hv => walk_at "ar"))
  | ((with_reducible refine' k_no ?hv ?_); (case hv => walk_at "ar"))
  | ((with_reducible refine' k_nyes ?hv ?_); (case hv => walk_at "ar"))
  | ((with_reducible refine' k_nno ?hv ?_); (case hv => walk_at "ar"))
  | with_reducible refine k_sfld ?_
  | ((with_reducible refine' k_ixL ?hv ?hw ?_); (case hv => walk_at "kn"); (case hw => rfl))
  | ((with_reducible refine' k_sumTu _ ?hv ?_); (case hv => walk_at "kn"))
  | ((with_reducible refine' u_is_integer  ?_); (refine' fun _ _ => ?_))
  | ((with_reducible refine' u_over ?ha ?_); (case ha => constructor <;> omega); (refine' fun _ _ => ?_))
  | ((with_reducible refine' u_is_within ?ha ?_); (case ha => constructor <;> omega); (refine' fun _ _ => ?_))
  | ((with_reducible refine' u_need_plus ?ha ?_); (case ha => constructor <;> omega); (refine' fun _ _ => ?_))
  | ((with_reducible refine' u_need_weight ?ha ?_); (case ha => constructor <;> omega); (refine' fun _ _ => ?_))
  | ((with_reducible refine' u_is_times ?ha ?hb ?_); (case ha => walk_at "kn"); (case hb => refine ⟨⟨?_, ?_⟩, ?_, ?_⟩ <;> omega); (refine' fun _ _ => ?_))
  | ((with_reducible refine' u_beside ?ha ?_); (case ha => walk_at "kn"); (refine' fun _ _ => ?_))
  | ((with_reducible refine' u_greatest ?ha ?hb ?_); (case ha => walk_at "kn"); (case hb => constructor <;> omega); (refine' fun _ _ => ?_))
  | ((with_reducible refine' u_need_weight_rule ?ha ?_); (case ha => walk_at "kn"); (refine' fun _ _ => ?_))
  | ((with_reducible refine' u_need_deed  ?_); (refine' fun _ _ => ?_))
  | ((with_reducible refine' u_has_three ?ha ?_); (case ha => walk_at "kn"); (refine' fun _ _ => ?_))
  | ((with_reducible refine' u_scaled ?ha ?hb ?_); (case ha => walk_at "kn"); (case hb => refine ⟨⟨?_, ?_⟩, ?_⟩ <;> (walk_at "ln")); (refine' fun _ _ _ _ => ?_))
  | ((with_reducible refine' u_added ?ha ?hb ?hc ?_); (case ha => walk_at "kn"); (case hb => walk_at "kn"); (case hc => constructor <;> (walk_at "ln")); (refine' fun _ _ _ _ => ?_))
  | ((with_reducible refine' u_amount ?ha ?hb ?hc ?_); (case ha => walk_at "kn"); (case hb => walk_at "kn"); (case hc => assumption); (refine' fun _ _ => ?_)))
local macro_rules | `(tactic| walk_at "go") => `(tactic| repeat (walk_at "st"))
local macro_rules | `(tactic| walk_at "run") => `(tactic| (dsimp only [cxK]; walk_at "go"))

section
variable {P : Program} {w : World} {K : PySem.W.Frag} {mg : Str → Option Value} {base : Heap}
/-! Case.__eq__ -/
def DCase (K : PySem.W.Frag) (x y : V) (H : Hp) (b : Bool) : Prop := ∃ a a' pt o w' pt' o' w'', x = .ref a ∧ y = .ref a' ∧ CaseAt K H a pt o w' ∧ CaseAt K H a' pt' o' w'' ∧ b = decide ((pt, o, w') = (pt', o', w''))
def sp_Case_eq (K : PySem.W.Frag) : Sp := spEqB (DCase K)
theorem oD_shaped (o : Option Br) : SeqAt.shaped (oD o) = true ∨ o = none := by
  cases o with
  | none => exact .inr rfl
  | some b => exact .inl b.shaped
theorem eqv3 (pt : Bool) (o w' : Option Br) (pt' : Bool) (o' w'' : Option Br) : PyData.eqv (.tuple [.str (dS pt), oD o, oD w']) (.tuple [.str (dS pt'), oD o', oD w'']) = decide ((pt, o, w') = (pt', o', w'')) := by
  have h1 : PyData.eqv (.str (dS pt)) (.str (dS pt')) = decide (pt = pt') := by cases pt <;> cases pt' <;> decide +kernel
  have h2 : ∀ a b : Option Br, PyData.eqv (oD a) (oD b) = decide (a = b) := by
    intro a b
    cases a with
    | none => cases b with
      | none => rfl
      | some b => rfl
    | some a => cases b with
      | none => rfl
      | some b =>
        show PyData.eqv a.d b.d = _
        rw [Br.eqv]
        by_cases h : a = b
        · rw [decide_eq_true h, decide_eq_true (by rw [h])]
        · rw [decide_eq_false h, decide_eq_false (fun z => h (Option.some.inj z))]
  have h3 : PyData.eqv (.tuple [.str (dS pt), oD o, oD w']) (.tuple [.str (dS pt'), oD o', oD w'']) = (PyData.eqv (.str (dS pt)) (.str (dS pt')) && (PyData.eqv (oD o) (oD o') && (PyData.eqv (oD w') (oD w'') && true))) := rfl
  rw [h3, h1, h2, h2]
  by_cases a : pt = pt' <;> by_cases b : o = o' <;> by_cases c : w' = w'' <;> simp [a, b, c]
theorem shaped3 (pt : Bool) (o w' : Option Br) : SeqAt.shaped (.tuple [.str (dS pt), oD o, oD w']) = true := by
  cases pt <;> cases o with
  | none => cases w' with
    | none => decide +kernel
    | some b => cases b <;> decide +kernel
  | some b => cases w' with
    | none => cases b <;> decide +kernel
    | some c => cases b <;> cases c <;> decide +kernel
theorem ok_Case_eq (T : TX K mg) : Ok P w K mg base 1 (He.ma K (He.ga K "Case") "__eq__") ["self", "other"] (sp_Case_eq K) := by
  obtain ⟨fd, F⟩ := T.F_Case_eq
  refine ⟨fd, okN F sc_Case_eq (by first | exact SV.len (fun _ => rfl) | exact PR.len (fun _ => rfl) | exact SJ.len (fun _ => rfl) | exact spEqB_len) (fun cdv A outer s H vs Q E hr h => ?_), F.bindsN (fun _ _ _ _ _ _ us hl => match us, hl with | [_, _], _ => rfl), F.kp⟩
  obtain ⟨_, _, b, rfl, ⟨a, a', pt, o, w', pt', o', w'', rfl, rfl, h1, h2, hb⟩, q⟩ := h
  subst hb
  have hd := h1.d
  obtain ⟨vo, ho, hoT⟩ := h1.o
  obtain ⟨vw, hw, hwT⟩ := h1.w
  have hd' := h2.d
  obtain ⟨vo', ho', hoT'⟩ := h2.o
  obtain ⟨vw', hw', hwT'⟩ := h2.w
  refine ⟨_, (pss_cons (ps_if (pt_not (pt_val (pe_callB (call_isi) (by rfl) T.n_isinstance (by decide +kernel) (pa_cons (pv 1) (pa_cons (pe_glob (v := .ref (He.ga K "Case")) (by rfl) T.g_Case rfl) pa_nil))))) (pss_one (ps_ret pe_bl)) pss_nil)
      (pss_one (ps_ret (pe_cmpR (op_eqD (room64 hr)) (pe_tup (pa_cons (pe_fld (pv 0) rfl) (pa_cons (pe_fld (pv 0) rfl) (pa_cons (pe_fld (pv 0) rfl) pa_nil)))) (pe_tup (pa_cons (pe_fld (pv 1) rfl) (pa_cons (pe_fld (pv 1) rfl) (pa_cons (pe_fld (pv 1) rfl) pa_nil)))) (nomark _))))), ?_⟩
  walk_at "run"
  refine ⟨_, _, .tup (xs := [.str (dS pt), vo, vw]) (by walk_at "kn") (.cons (.str _) (.cons (TO.dp (by walk_at "kn")) (.cons (TO.dp (by walk_at "kn")) .nil))), .tup (xs := [.str (dS pt'), vo', vw']) (by walk_at "kn") (.cons (.str _) (.cons (TO.dp (by walk_at "kn")) (.cons (TO.dp (by walk_at "kn")) .nil))), shaped3 _ _ _, shaped3 _ _ _, ?_⟩
  rw [eqv3]
  refine q _ ?_
  exact Ex.trans (by assumption) (by assumption)

end
end M
namespace M
open PySem PySem.Spec PyProof.Rows L2 Evl
local macro_rules | `(tactic| walk_at "ar") => `(tactic| first | exact rfl | omega | (simp only [List.length_map, List.length_cons, List.length_nil] at *; omega) | decide)
local macro_rules | `(tactic| walk_at "ex") => `(tactic| first | with_reducible assumption | exact Ex.refl _ | (refine' Ex.trans ?a ?b; (case b => with_reducible assumption); (case a => walk_at "ex")))
local macro_rules | `(tactic| walk_at "exn") => `(tactic| first | with_reducible assumption | exact ExN.refl _ | (refine' ExN.trans ?a (ExN.of ?b); (case b => with_reducible assumption); (case a => walk_at "exn")) | (refine' ExN.trans ?a ?b; (case b => with_reducible assumption); (case a => walk_at "exn")))
local macro_rules | `(tactic| walk_at "ln") => `(tactic| first | exact rfl | omega | (simp only [scaleF, addF, List.length_map, List.length_zip, List.length_cons, List.length_nil] <;> omega))
local macro_rules | `(tactic| walk_at "kn") => `(tactic| first
  | with_reducible assumption
  | ((with_reducible refine' Fld.mono ?e ?m); (case e => with_reducible assumption); (case m => walk_at "kn"))
  | ((with_reducible refine' Ins.mono ?e ?m); (case e => with_reducible assumption); (case m => walk_at "kn"))
  | ((with_reducible refine' SqT.of ?m); (case m => walk_at "kn"))
  | ((with_reducible refine' SqL.of ?m); (case m => walk_at "kn"))
  | with_reducible exact kn_DEEDS (by assumption)
  | with_reducible exact kn_INNER (by assumption)
  | with_reducible exact kn_ONCE (by assumption)
  | with_reducible exact kn_TWICE (by assumption)
  | ((with_reducible refine' RB.mono ?e ?m); (case e => with_reducible assumption); (case m => walk_at "kn"))
  | ((with_reducible refine' RuleI.mono ?e ?m); (case e => with_reducible assumption); (case m => walk_at "kn"))
  | ((with_reducible refine' TestAt.mono ?e ?m); (case e => with_reducible assumption); (case m => walk_at "kn"))
  | ((with_reducible refine' TO_mono ?e ?m); (case e => with_reducible assumption); (case m => walk_at "kn"))
  | ((with_reducible refine' CaseAt.mono ?e ?m); (case e => with_reducible assumption); (case m => walk_at "kn"))
  | ((with_reducible refine' ExN.t ?e ?m); (case e => with_reducible assumption); (case m => walk_at "kn"))
  | ((with_reducible refine' ex_t ?e ?m); (case e => with_reducible assumption); (case m => walk_at "kn"))
  | ((with_reducible refine' ex_l ?e ?m); (case e => with_reducible assumption); (case m => walk_at "kn"))
  | ((with_reducible refine' Ex.at ?e ?m); (case e => with_reducible assumption); (case m => walk_at "kn"))
  | ((with_reducible refine' Mu.t ?e ?n ?m); (case e => with_reducible assumption); (case n => with_reducible assumption); (case m => walk_at "kn"))
  | ((with_reducible refine' Mu.lst ?e ?n ?m); (case e => with_reducible assumption); (case n => with_reducible assumption); (case m => walk_at "kn"))
  | ((with_reducible refine' Mu.fld ?e ?n ?m); (case e => with_reducible assumption); (case n => with_reducible assumption); (case m => walk_at "kn")))
local macro_rules | `(tactic| walk_at "st") => `(tactic| first
  | with_reducible refine k_seq ?_
  | with_reducible refine k_asg ?_
  | with_reducible refine k_ret ?_
  | with_reducible refine k_drop ?_
  | with_reducible refine k_ifS ?_
  | with_reducible refine k_name ?_
  | with_reducible refine k_next ?_
  | ((with_reducible refine' k_var ?hv ?_); case hv => exact rfl)
  | with_reducible refine k_c ?_
  | with_reducible refine k_fld ?_
  | ((with_reducible refine' k_fld2 ?hv ?_); case hv => walk_at "kn")
  | with_reducible refine k_op ?_
  | with_reducible refine k_un ?_
  | with_reducible refine k_add ?_
  | with_reducible refine k_sub ?_
  | with_reducible refine k_neg ?_
  | ((with_reducible refine' k_mul ?hv ?_); case hv => first | (left; constructor <;> omega) | (right; constructor <;> omega))
  | ((with_reducible refine' k_fdiv ?hv ?_); case hv => constructor <;> omega)
  | ((with_reducible refine' k_mod ?hv ?_); case hv => omega)
  | with_reducible refine k_lt ?_
  | with_reducible refine k_le ?_
  | with_reducible refine k_gt ?_
  | with_reducible refine k_ge ?_
  | with_reducible refine k_eqI ?_
  | with_reducible refine k_eqT ?_
  | with_reducible refine k_neI ?_
  | with_reducible refine k_isN_int ?_
  | with_reducible refine k_isN_ref ?_
  | with_reducible refine k_isN_non ?_
  | with_reducible refine k_notN_int ?_
  | with_reducible refine k_notN_ref ?_
  | with_reducible refine k_notN_non ?_
  | with_reducible refine k_test ?_
  | with_reducible refine k_B ?_
  | with_reducible refine k_bx ?_
  | with_reducible refine k_not ?_
  | with_reducible refine k_notV ?_
  | with_reducible refine k_and ?_
  | with_reducible refine k_or ?_
  | with_reducible refine k_andV ?_
  | with_reducible refine k_orV ?_
  | with_reducible refine k_if ?_
  | with_reducible refine k_chain ?_
  | with_reducible refine iteT ?_
  | with_reducible refine iteF ?_
  | with_reducible refine k_nil ?_
  | with_reducible refine k_cons ?_
  | with_reducible refine k_tup ?_
  | with_reducible refine k_lst ?_
  | with_reducible refine k_call ?_
  | with_reducible refine k_meth ?_
  | ((with_reducible refine' k_meth2 ?hv ?_); case hv => walk_at "kn")
  | with_reducible refine k_make ?_
  | with_reducible refine k_cb ?_
  | with_reducible refine k_min2 ?_
  | with_reducible refine k_max2 ?_
  | with_reducible refine k_int1 ?_
  | with_reducible refine k_int1b ?_
  | with_reducible refine k_abs1 ?_
  | ((with_reducible refine' k_gtup ?hv ?hw ?_); (case hv => walk_at "kn"); (case hw => rfl))
  | with_reducible refine k_gcons ?_
  | with_reducible refine k_gnil ?_
  | with_reducible refine k_isi_ii ?_
  | with_reducible refine k_isi_ib ?_
  | with_reducible refine k_isi_ss ?_
  | ((with_reducible refine' k_isi_tt ?hv ?_); case hv => walk_at "kn")
  | with_reducible refine iteNT ?_
  | with_reducible refine iteNF ?_
  | with_reducible refine k_cval ?_
  | ((with_reducible refine' k_cval2 ?hv ?_); case hv => exact kn_most (by assumption))
  | with_reducible refine k_lc ?_
  | with_reducible refine k_iT ?_
  | ((with_reducible refine' k_iT2 ?hv ?_); case hv => walk_at "kn")
  | with_reducible refine k_iL ?_
  | ((with_reducible refine' k_iL2 ?hv ?_); case hv => walk_at "kn")
  | with_reducible refine k_i1 ?_
  | ((with_reducible refine' k_i1a ?hv ?_); case hv => constructor <;> omega)
  | with_reducible refine k_i2 ?_
  | ((with_reducible refine' k_i2a ?hv ?_); case hv => refine ⟨?_, ?_, ?_, ?_⟩ <;> omega)
  | with_reducible refine k_iZ ?_
  | ((with_reducible refine' k_iZa ?hv ?hw ?_); (case hv => walk_at "kn"); (case hw => walk_at "kn"))
  | with_reducible refine k_iN ?_
  | ((with_reducible refine' k_lenT ?hv ?_); case hv => walk_at "kn")
  | ((with_reducible refine' k_lenL ?hv ?_); case hv => walk_at "kn")
  | ((with_reducible refine' k_ixT ?hv ?hw ?_); (case hv => walk_at "kn"); (case hw => rfl))
  | ((with_reducible refine' k_tupL ?hv ?_); (case hv => walk_at "kn"); (refine' fun _ _ _ _ _ => ?_))
  | ((with_reducible refine' k_tupT ?hv ?_); (case hv => walk_at "kn"))
  | ((with_reducible refine' k_new ?hv ?_); (case hv => (simp only [List.length_cons, List.length_nil]; exact sze _ (by omega))); (refine' fun _ _ _ _ _ => ?_))
  | ((with_reducible refine' k_isiW ?hT ?hv ?_); (case hT => assumption); (case hv => walk_at "kn"))
  | ((with_reducible refine' k_isiT ?hT ?hv ?_); (case hT => assumption); (case hv => walk_at "kn"))
  | ((with_reducible refine' k_isiC ?hT ?hv ?_); (case hT => assumption); (case hv => walk_at "kn"))
  | ((with_reducible refine' k_isiLT ?hv ?hw ?_); (case hv => walk_at "kn"); (case hw => walk_at "kn"))
  | ((with_reducible refine' k_isN_TO ?hv ?_); (case hv => walk_at "kn"))
  | ((with_reducible refine' k_notN_TO ?hv ?_); (case hv => walk_at "kn"))
  | ((with_reducible refine' k_notInDeeds ?hv ?_); (case hv => walk_at "kn"))
  | with_reducible refine k_eqPut ?_
  | ((refine' k_eqB .inn ?hv ?hw ?hx ?_); (case hv => walk_at "kn"); (case hw => walk_at "kn"); (case hx => rfl))
  | ((refine' k_eqB .lf ?hv ?hw ?hx ?_); (case hv => walk_at "kn"); (case hw => walk_at "kn"); (case hx => rfl))
  | ((refine' k_eqB .ls ?hv ?hw ?hx ?_); (case hv => walk_at "kn"); (case hw => walk_at "kn"); (case hx => rfl))
  | ((refine' k_eqB .ff ?hv ?hw ?hx ?_); (case hv => walk_at "kn"); (case hw => walk_at "kn"); (case hx => rfl))
  | ((refine' k_eqB .fs ?hv ?hw ?hx ?_); (case hv => walk_at "kn"); (case hw => walk_at "kn"); (case hx => rfl))
  | ((refine' k_eqB .tf ?hv ?hw ?hx ?_); (case hv => walk_at "kn"); (case hw => walk_at "kn"); (case hx => rfl))
  | ((with_reducible refine' k_yes ?hv ?_); (case hv => walk_at "ar"))
  | ((with_reducible refine' k_no ?hv ?_); (case hv => walk_at "ar"))
  | ((with_reducible refine' k_nyes ?hv ?_); (case hv => walk_at "ar"))
  | ((with_reducible refine' k_nno ?hv ?_); (case hv => walk_at "ar"))
  | with_reducible refine k_sfld ?_
  | ((with_reducible refine' k_ixL ?hv ?hw ?_); (case hv => walk_at "kn"); (case hw => rfl))
  | ((with_reducible refine' k_sumTu _ ?hv ?_); (case hv => walk_at "kn"))
  | ((with_reducible refine' u_is_integer  ?_); (refine' fun _ _ => ?_))
  | ((with_reducible refine' u_over ?ha ?_); (case ha => constructor <;> omega); (refine' fun _ _ => ?_))
  | ((with_reducible refine' u_is_within ?ha ?_); (case ha => constructor <;> omega); (refine' fun _ _ => ?_))
  | ((with_reducible refine' u_need_plus ?ha ?_); (case ha => constructor <;> omega); (refine' fun _ _ => ?_))
  | ((with_reducible refine' u_need_weight ?ha ?_); (case ha => constructor <;> omega); (refine' fun _ _ => ?_))
  | ((with_reducible refine' u_is_times ?ha ?hb ?_); (case ha => walk_at "kn"); (case hb => refine ⟨⟨?_, ?_⟩, ?_, ?_⟩ <;> omega); (refine' fun _ _ => ?_))
  | ((with_reducible refine' u_beside ?ha ?_); (case ha => walk_at "kn"); (refine' fun _ _ => ?_))
  | ((with_reducible refine' u_greatest ?ha ?hb ?_); (case ha => walk_at "kn"); (case hb => constructor <;> omega); (refine' fun _ _ => ?_))
  | ((with_reducible refine' u_need_weight_rule ?ha ?_); (case ha => walk_at "kn"); (refine' fun _ _ => ?_))
  | ((with_reducible refine' u_need_deed  ?_); (refine' fun _ _ => ?_))
  | ((with_reducible refine' u_has_three ?ha ?_); (case ha => walk_at "kn"); (refine' fun _ _ => ?_))
  | ((with_reducible refine' u_scaled ?ha ?hb ?_); (case ha => walk_at "kn"); (case hb => refine ⟨⟨?_, ?_⟩, ?_⟩ <;> (walk_at "ln")); (refine' fun _ _ _ _ => ?_))
  | ((with_reducible refine' u_added ?ha ?hb ?hc ?_); (case ha => walk_at "kn"); (case hb => walk_at "kn"); (case hc => constructor <;> (walk_at "ln")); (refine' fun _ _ _ _ => ?_))
  | ((with_reducible refine' u_amount ?ha ?hb ?hc ?_); (case ha => walk_at "kn"); (case hb => walk_at "kn"); (case hc => assumption); (refine' fun _ _ => ?_)))
local macro_rules | `(tactic| walk_at "go") => `(tactic| repeat (walk_at "st"))
local macro_rules | `(tactic| walk_at "run") => `(tactic| (dsimp only [cxK]; walk_at "go"))

section
variable {P : Program} {w : World} {K : PySem.W.Frag} {mg : Str → Option Value} {base : Heap}
/-! Forms -/
def sp_Forms_init (K : PySem.W.Frag) : Sp := SJ (He.ga K "Forms") (fun i : Addr × Bool × Option Br × Option Br => [.ref i.1]) (fun i H => CaseAt K H i.1 i.2.1 i.2.2.1 i.2.2.2) fun i x H' => FormsAt K H' x (has3 i.2.2.2)
theorem ok_Forms_init (T : TX K mg) : Ok P w K mg base 3 (He.ma K (He.ga K "Forms") "__init__") ["self", "case"] (sp_Forms_init K) := by
  obtain ⟨fd, F⟩ := T.F_Forms_init
  obtain ⟨_, G_has_three, b_has_three, k_has_three⟩ := ok_has_three (P := P) (w := w) (base := base) T
  obtain ⟨G_added, k_added⟩ := ok_added (P := P) (w := w) (base := base) T
  refine ⟨fd, okN F sc_Forms_init (by first | exact SV.len (fun _ => rfl) | exact PR.len (fun _ => rfl) | exact SJ.len (fun _ => rfl) | exact spEqB_len) (fun cdv A outer s H vs Q E hr h => ?_), F.bindsN (fun _ _ _ _ _ _ us hl => match us, hl with | [_, _], _ => rfl), F.kp⟩
  obtain ⟨⟨a, pt, o, w'⟩, x, dx, rfl, hx, hC, q⟩ := h
  dsimp only at hC q
  refine ⟨_, (pss_cons (ps_set (i := 2) sc_Forms_init.nd rfl (Or.inr rfl) (pe_ifExp (pt_val (pe_call G_has_three (hr.mono (by decide)) (by rfl) T.g_has_three k_has_three b_has_three .nil pass0 (pa_cons (pv 1) pa_nil))) pe_int pe_int))
      (pss_cons (ps_fld (pv 0) (pe_lc (own := [("at", 3)]) (by rfl) sc_Forms_init.nd (pi_range1 (by rfl) T.n_range (pa_cons (pv 2) pa_nil)) (blkOk_by (by rfl)) (fun _ _ _ _ _ => pg_name (i := 3) sc_Forms_init.nd rfl (by first | exact Or.inl rfl | exact Or.inr rfl)) (fun _ _ _ _ _ => pts_nil) (fun _ _ _ _ _ => (pe_callTy (c_tupleK K rfl) (by rfl) T.n_tuple (by decide +kernel) (pa_cons (pe_lc (own := [("spot", 4)]) (by rfl) sc_Forms_init.nd (pi_range1 (by rfl) T.n_range (pa_cons (pv 2) pa_nil)) (blkOk_by (by rfl)) (fun _ _ _ _ _ => pg_name (i := 4) sc_Forms_init.nd rfl (by first | exact Or.inl rfl | exact Or.inr rfl)) (fun _ _ _ _ _ => pts_nil) (fun _ _ _ _ _ => (pe_callTy (c_int1) (by rfl) T.n_int (by decide +kernel) (pa_cons (pe_cmpR op_eq (pv 3) (pv 4) (nomark _)) pa_nil)))) pa_nil)))) rfl)
      (pss_cons (ps_fld (pv 0) (pe_ix ix_list (pe_fld (pv 0) rfl) pe_int (fun _ _ => rfl)) rfl)
      (pss_cons (ps_fld (pv 0) (pe_ix ix_list (pe_fld (pv 0) rfl) (pe_un un_neg pe_int) (fun _ _ => rfl)) rfl)
      (pss_cons (ps_fld (pv 0) (pe_ifExp (pt_cmpR op_eq (pv 2) pe_int (nomark _)) pe_non (pe_ix ix_list (pe_fld (pv 0) rfl) pe_int (fun _ _ => rfl))) rfl)
      (pss_cons (ps_fld (pv 0) (pe_ifExp (pt_cmpR op_eq (pv 2) pe_int (nomark _)) pe_non (pe_ix ix_list (pe_fld (pv 0) rfl) pe_int (fun _ _ => rfl))) rfl)
      (pss_one (ps_fld (pv 0) (pe_ifExp (pt_cmpR op_eq (pv 2) pe_int (nomark _)) (pe_ix ix_list (pe_fld (pv 0) rfl) pe_int (fun _ _ => rfl)) (pe_callR G_added (hr.mono (by decide)) k_added (by rfl) T.g_added pass0 (pa_cons (pe_fld (pv 0) rfl) (pa_cons (pe_fld (pv 0) rfl) pa_nil)))) rfl)))))))), ?_⟩
  walk_at "run"
  cases h3 : has3 w' with
  | true =>
    simp only [h3] at q
    refine iteT ?_
    walk_at "go"
    refine lcR (lo := 0) 3 (R := fun i y H => TI K (unitP 3 i) y H) (sz 3 (by omega)) ⟨fun _ _ _ _ e h => h.mono e, fun j H' Qk hj e q => ?_⟩ fun D H' ys hD e hy a2 => ?_
    · refine k_name ⟨rfl, ?_⟩
      walk_at "go"
      refine lcR (lo := 0) 3 (R := fun i y H => y = .int (if decide ((0 : Int) + (j : Nat) = 0 + (i : Nat)) then 1 else 0)) (sz 3 (by omega)) ⟨fun _ _ _ _ e h => h, fun j' H' Qk' hj' e' q' => ?_⟩ fun D' H' zs hD' e' hz a3 => ?_
      · refine k_name ⟨rfl, ?_⟩
        walk_at "go"
        exact q' _ _ (Ex.refl _) rfl
      · have hys := a3.map
        subst hys
        walk_at "go"
        refine q _ _ ?_ ⟨_, rfl, ?_⟩
        · exact e'.trans (by assumption)
        · rw [show (unitP 3 j).map V.int = (List.range 3).map fun i => V.int (if decide ((0 : Int) + (j : Nat) = 0 + (i : Nat)) then 1 else 0) by simp only [unitP, List.map_map, Function.comp_def]]
          walk_at "kn"
    · have b0 : All2 (fun i y H => TI K (unitP 3 i) y H) [0, 1, 2] ys H' := a2
      obtain ⟨_, ys0, rfl, ⟨t0, rfl, s0⟩, b1⟩ := b0.cons
      obtain ⟨_, ys1, rfl, ⟨t1, rfl, s1⟩, b2⟩ := b1.cons
      obtain ⟨_, ys2, rfl, ⟨t2, rfl, s2⟩, b3⟩ := b2.cons
      obtain rfl : ys2 = [] := List.eq_nil_of_length_eq_zero b3.1
      have s0 : SqT K H' t0 (List.map V.int [1, 0, 0]) := s0
      have s1 : SqT K H' t1 (List.map V.int [0, 1, 0]) := s1
      have s2 : SqT K H' t2 (List.map V.int [0, 0, 1]) := s2
      have hx0 : H' x = some (.ins (He.ga K "Forms") dx []) := by walk_at "kn"
      walk_at "go"
      refine' k_sf ?ha1a T.c_Forms T.na_Forms_units ?hb1a ?hc1a
      case ha1a => walk_at "kn"
      case hb1a => exact (show 0 < 1000 by omega)
      refine' fun H1 m1 hx1 => ?_
      have f0_1 := fld_of hx1 T.c_Forms T.na_Forms_units rfl
      walk_at "go"
      refine' k_sf ?ha2a T.c_Forms T.na_Forms_light ?hb2a ?hc2a
      case ha2a => walk_at "kn"
      case hb2a => exact (show 1 < 1000 by omega)
      refine' fun H2 m2 hx2 => ?_
      have f0_2 := fld_of hx2 T.c_Forms T.na_Forms_units rfl
      walk_at "go"
      refine' k_sf ?ha3a T.c_Forms T.na_Forms_outer ?hb3a ?hc3a
      case ha3a => walk_at "kn"
      case hb3a => exact (show 2 < 1000 by omega)
      refine' fun H3 m3 hx3 => ?_
      have f0_3 := fld_of hx3 T.c_Forms T.na_Forms_units rfl
      walk_at "go"
      refine' k_sf ?ha4a T.c_Forms T.na_Forms_near ?hb4a ?hc4a
      case ha4a => walk_at "kn"
      case hb4a => exact (show 3 < 1000 by omega)
      refine' fun H4 m4 hx4 => ?_
      have f0_4 := fld_of hx4 T.c_Forms T.na_Forms_units rfl
      walk_at "go"
      refine' k_sf ?ha5a T.c_Forms T.na_Forms_far ?hb5a ?hc5a
      case ha5a => walk_at "kn"
      case hb5a => exact (show 4 < 1000 by omega)
      refine' fun H5 m5 hx5 => ?_
      have f0_5 := fld_of hx5 T.c_Forms T.na_Forms_units rfl
      walk_at "go"
      refine' k_sf ?ha6a T.c_Forms T.na_Forms_inner ?hb6a ?hc6a
      case ha6a => walk_at "kn"
      case hb6a => exact (show 5 < 1000 by omega)
      refine' fun H6 m6 hx6 => ?_
      have f0_6 := fld_of hx6 T.c_Forms T.na_Forms_units rfl
      have m0 : Mu x H H' := (Ex.mu (by assumption)).trans (Ex.mu e)
      have mm : Mu x H' H6 := m1.trans (m2.trans (m3.trans (m4.trans (m5.trans m6))))
      have hxx : ∃ dx fs, H' x = some (.ins (He.ga K "Forms") dx fs) := ⟨_, _, by walk_at "kn"⟩
      obtain ⟨dx', fs', hxx⟩ := hxx
      have a6 : All2 (TI K) (unitsP true) _ H6 := All2.mk ⟨_, rfl, mm.t hxx s0⟩ (All2.mk ⟨_, rfl, mm.t hxx s1⟩ (All2.mk ⟨_, rfl, mm.t hxx s2⟩ (All2.nil)))
      refine q _ (m0.trans mm) ⟨⟨_, _, hx6, rfl⟩, ⟨_, _, hx6, rfl⟩, ⟨_, _, fld_of hx6 T.c_Forms T.na_Forms_units rfl, SqL.of (mm.lst hxx hy), a6⟩, ⟨_, fld_of hx6 T.c_Forms T.na_Forms_light rfl, mm.t hxx s0⟩, ⟨_, fld_of hx6 T.c_Forms T.na_Forms_outer rfl, mm.t hxx s2⟩, ⟨_, fld_of hx6 T.c_Forms T.na_Forms_inner rfl, mm.t hxx s1⟩, fld_of hx6 T.c_Forms T.na_Forms_near rfl, fld_of hx6 T.c_Forms T.na_Forms_far rfl⟩
  | false =>
    simp only [h3] at q
    refine iteF ?_
    walk_at "go"
    refine lcR (lo := 0) 4 (R := fun i y H => TI K (unitP 4 i) y H) (sz 4 (by omega)) ⟨fun _ _ _ _ e h => h.mono e, fun j H' Qk hj e q => ?_⟩ fun D H' ys hD e hy a2 => ?_
    · refine k_name ⟨rfl, ?_⟩
      walk_at "go"
      refine lcR (lo := 0) 4 (R := fun i y H => y = .int (if decide ((0 : Int) + (j : Nat) = 0 + (i : Nat)) then 1 else 0)) (sz 4 (by omega)) ⟨fun _ _ _ _ e h => h, fun j' H' Qk' hj' e' q' => ?_⟩ fun D' H' zs hD' e' hz a3 => ?_
      · refine k_name ⟨rfl, ?_⟩
        walk_at "go"
        exact q' _ _ (Ex.refl _) rfl
      · have hys := a3.map
        subst hys
        walk_at "go"
        refine q _ _ ?_ ⟨_, rfl, ?_⟩
        · exact e'.trans (by assumption)
        · rw [show (unitP 4 j).map V.int = (List.range 4).map fun i => V.int (if decide ((0 : Int) + (j : Nat) = 0 + (i : Nat)) then 1 else 0) by simp only [unitP, List.map_map, Function.comp_def]]
          walk_at "kn"
    · have b0 : All2 (fun i y H => TI K (unitP 4 i) y H) [0, 1, 2, 3] ys H' := a2
      obtain ⟨_, ys0, rfl, ⟨t0, rfl, s0⟩, b1⟩ := b0.cons
      obtain ⟨_, ys1, rfl, ⟨t1, rfl, s1⟩, b2⟩ := b1.cons
      obtain ⟨_, ys2, rfl, ⟨t2, rfl, s2⟩, b3⟩ := b2.cons
      obtain ⟨_, ys3, rfl, ⟨t3, rfl, s3⟩, b4⟩ := b3.cons
      obtain rfl : ys3 = [] := List.eq_nil_of_length_eq_zero b4.1
      have s0 : SqT K H' t0 (List.map V.int [1, 0, 0, 0]) := s0
      have s1 : SqT K H' t1 (List.map V.int [0, 1, 0, 0]) := s1
      have s2 : SqT K H' t2 (List.map V.int [0, 0, 1, 0]) := s2
      have s3 : SqT K H' t3 (List.map V.int [0, 0, 0, 1]) := s3
      have hx0 : H' x = some (.ins (He.ga K "Forms") dx []) := by walk_at "kn"
      walk_at "go"
      refine' k_sf ?ha1b T.c_Forms T.na_Forms_units ?hb1b ?hc1b
      case ha1b => walk_at "kn"
      case hb1b => exact (show 0 < 1000 by omega)
      refine' fun H1 m1 hx1 => ?_
      have f0_1 := fld_of hx1 T.c_Forms T.na_Forms_units rfl
      walk_at "go"
      refine' k_sf ?ha2b T.c_Forms T.na_Forms_light ?hb2b ?hc2b
      case ha2b => walk_at "kn"
      case hb2b => exact (show 1 < 1000 by omega)
      refine' fun H2 m2 hx2 => ?_
      have f0_2 := fld_of hx2 T.c_Forms T.na_Forms_units rfl
      walk_at "go"
      refine' k_sf ?ha3b T.c_Forms T.na_Forms_outer ?hb3b ?hc3b
      case ha3b => walk_at "kn"
      case hb3b => exact (show 2 < 1000 by omega)
      refine' fun H3 m3 hx3 => ?_
      have f0_3 := fld_of hx3 T.c_Forms T.na_Forms_units rfl
      walk_at "go"
      refine' k_sf ?ha4b T.c_Forms T.na_Forms_near ?hb4b ?hc4b
      case ha4b => walk_at "kn"
      case hb4b => exact (show 3 < 1000 by omega)
      refine' fun H4 m4 hx4 => ?_
      have f0_4 := fld_of hx4 T.c_Forms T.na_Forms_units rfl
      have f3_4 := fld_of hx4 T.c_Forms T.na_Forms_near rfl
      walk_at "go"
      refine' k_sf ?ha5b T.c_Forms T.na_Forms_far ?hb5b ?hc5b
      case ha5b => walk_at "kn"
      case hb5b => exact (show 4 < 1000 by omega)
      refine' fun H5 m5 hx5 => ?_
      have f0_5 := fld_of hx5 T.c_Forms T.na_Forms_units rfl
      have f3_5 := fld_of hx5 T.c_Forms T.na_Forms_near rfl
      have f4_5 := fld_of hx5 T.c_Forms T.na_Forms_far rfl
      walk_at "go"
      refine' k_sf ?ha6b T.c_Forms T.na_Forms_inner ?hb6b ?hc6b
      case ha6b => walk_at "kn"
      case hb6b => exact (show 5 < 1000 by omega)
      refine' fun H6 m6 hx6 => ?_
      have f0_6 := fld_of hx6 T.c_Forms T.na_Forms_units rfl
      have f3_6 := fld_of hx6 T.c_Forms T.na_Forms_near rfl
      have f4_6 := fld_of hx6 T.c_Forms T.na_Forms_far rfl
      have m0 : Mu x H H' := (Ex.mu (by assumption)).trans (Ex.mu e)
      have mm : Mu x H' H6 := m1.trans (m2.trans (m3.trans (m4.trans (m5.trans ((Ex.mu (by assumption)).trans m6)))))
      have hxx : ∃ dx fs, H' x = some (.ins (He.ga K "Forms") dx fs) := ⟨_, _, by walk_at "kn"⟩
      obtain ⟨dx', fs', hxx⟩ := hxx
      have a6 : All2 (TI K) (unitsP false) _ H6 := All2.mk ⟨_, rfl, mm.t hxx s0⟩ (All2.mk ⟨_, rfl, mm.t hxx s1⟩ (All2.mk ⟨_, rfl, mm.t hxx s2⟩ (All2.mk ⟨_, rfl, mm.t hxx s3⟩ (All2.nil))))
      refine q _ (m0.trans mm) ⟨⟨_, _, hx6, rfl⟩, ⟨_, _, hx6, rfl⟩, ⟨_, _, fld_of hx6 T.c_Forms T.na_Forms_units rfl, SqL.of (mm.lst hxx hy), a6⟩, ⟨_, fld_of hx6 T.c_Forms T.na_Forms_light rfl, mm.t hxx s0⟩, ⟨_, fld_of hx6 T.c_Forms T.na_Forms_outer rfl, mm.t hxx s3⟩, ⟨_, fld_of hx6 T.c_Forms T.na_Forms_inner rfl, m6.t (by walk_at "kn") (by assumption)⟩, ⟨_, fld_of hx6 T.c_Forms T.na_Forms_near rfl, mm.t hxx s1⟩, ⟨_, fld_of hx6 T.c_Forms T.na_Forms_far rfl, mm.t hxx s2⟩⟩

end
end M
namespace M
open PySem PySem.Spec PyProof.Rows L2 Evl
def heavyP (three : Bool) : List Int := addF (innerP three) (outerP three)
def fairT (R : Rl) (xs ys : List Int) : List (List Int × Int) := [(addF (scaleF R.p xs) (scaleF (-R.q) ys), -R.k), (addF (scaleF R.p ys) (scaleF (-R.q) xs), -R.k)]
def unfT (R : Rl) (xs ys : List Int) : List Int × Int := (addF (scaleF R.q xs) (scaleF (-R.p) ys), R.k + 1)
def turnT (R : Rl) (three tw : Bool) : List (List Int × Int) := match R.turn with
  | none => []
  | some (t, s, r) => [if tw then (scaleF (-1) (addF (scaleF t (outerP three)) (scaleF (-s) (innerP three))), r + 1) else (addF (scaleF t (outerP three)) (scaleF (-s) (innerP three)), -r)]
/-- the two sides of a break -/
def sidesP (three tw : Bool) (b : Br) : List Int × List Int := match tw, b with
  | false, .lf => (lightP three, innerP three)
  | false, .ls => (lightP three, innerP three)
  | false, _ => (addF (lightP three) (innerP three), outerP three)
  | true, .lf => (lightP false, nearP)
  | true, .ls => (lightP false, nearP)
  | true, .ff => (farP, outerP false)
  | true, .fs => (farP, outerP false)
  | true, _ => (addF (lightP false) nearP, addF farP (outerP false))
def fst? : Br → Bool
  | .lf => true
  | .ff => true
  | .tf => true
  | _ => false
def breakT (R : Rl) (three tw : Bool) (b : Br) : List Int × Int := if b = .inn then (scaleF (-1) (innerP three), -1) else
  if fst? b then unfT R (sidesP three tw b).1 (sidesP three tw b).2 else unfT R (sidesP three tw b).2 (sidesP three tw b).1
def testsT (R : Rl) (pt : Bool) (o w : Option Br) : List (List Int × Int) :=
  (unitsP (has3 w)).map (fun u => (u, 1)) ++ [unfT R (heavyP (has3 w)) (lightP (has3 w))] ++ [(addF (scaleF R.p (lightP (has3 w))) (scaleF (-R.q) (heavyP (has3 w))), -R.k - (if pt then R.q else R.p))] ++
  fairT R (innerP (has3 w)) (outerP (has3 w)) ++ (if has3 w then [] else fairT R nearP farP) ++ turnT R (has3 w) w.isSome ++ (match o with
    | none => []
    | some b => [breakT R (has3 w) false b]) ++ (match w with
    | none => []
    | some b => [breakT R (has3 w) true b])
def holds (ts : List (List Int × Int)) (xs : List Int) : Bool := ts.all fun t => decide (t.2 ≤ dot t.1 xs)
/-- a test -/
def TL (K : PySem.W.Frag) (j : List Int × Int) (y : V) (H : Hp) : Prop := ∃ a, y = .ref a ∧ TestAt K H a j.1 j.2
theorem TL.mono {K : PySem.W.Frag} {j : List Int × Int} {y : V} {H H' : Hp} (e : ExN H H') (h : TL K j y H) : TL K j y H' :=
  let ⟨a, h1, h2⟩ := h; ⟨a, h1, h2.monoN e⟩
theorem bl_light (three : Bool) : BL (if three then 3 else 4) 1 (lightP three) := by cases three <;> exact ⟨rfl, by decide⟩
theorem bl_outer (three : Bool) : BL (if three then 3 else 4) 1 (outerP three) := by cases three <;> exact ⟨rfl, by decide⟩
theorem bl_inner (three : Bool) : BL (if three then 3 else 4) 1 (innerP three) := by cases three <;> exact ⟨rfl, by decide⟩
theorem bl_near : BL 4 1 nearP := ⟨rfl, by decide⟩
theorem bl_far : BL 4 1 farP := ⟨rfl, by decide⟩
theorem bl_heavy (three : Bool) : BL (if three then 3 else 4) 2 (heavyP three) := (bl_inner three).add (bl_outer three)
theorem bl_sides (three tw : Bool) (b : Br) (h : tw = true → three = false) : BL (if three then 3 else 4) 2 (sidesP three tw b).1 ∧ BL (if three then 3 else 4) 2 (sidesP three tw b).2 := by
  cases tw with
  | false => cases b <;> first
    | exact ⟨(bl_light three).le (by omega), (bl_inner three).le (by omega)⟩
    | exact ⟨(bl_light three).add (bl_inner three), (bl_outer three).le (by omega)⟩
  | true =>
    cases h rfl
    cases b <;> first
    | exact ⟨(bl_light false).le (by omega), bl_near.le (by omega)⟩
    | exact ⟨bl_far.le (by omega), (bl_outer false).le (by omega)⟩
    | exact ⟨(bl_light false).add bl_near, bl_far.add (bl_outer false)⟩
/-- a form at hand -/
structure FA (K : PySem.W.Frag) (H : Hp) (a : Addr) (n : Nat) (xs : List Int) : Prop where
  s : SqT K H a (xs.map V.int)
  b : BL n 4 xs
theorem n34 {three : Bool} {n : Nat} (h : n = if three then 3 else 4) : 1 ≤ n ∧ n ≤ 5 := by
  subst h
  cases three <;> simp
theorem pq_test {n : Nat} {xs ys : List Int} {a b : Int} (hn : 1 ≤ n ∧ n ≤ 5) (h1 : BL n 4 xs) (h2 : BL n 4 ys) (ha : -10 ≤ a ∧ a ≤ 10) (hb : -10 ≤ b ∧ b ≤ 10) :
    (1 ≤ (addF (scaleF a xs) (scaleF b ys)).length ∧ (addF (scaleF a xs) (scaleF b ys)).length ≤ 5) ∧ ∀ p ∈ addF (scaleF a xs) (scaleF b ys), -100000 < p ∧ p < 100000 :=
  ((h1.scale (M := 10) (by omega) (by omega) ha).add (h2.scale (M := 10) (by omega) (by omega) hb)).test hn (by omega)
/-- forms, the units aside -/
structure FormsB (K : PySem.W.Frag) (H : Hp) (a : Addr) (three : Bool) : Prop where
  hm : Ins H a (He.ga K "Forms") "heavy_form"
  sd : Ins H a (He.ga K "Forms") "sides"
  light : ∃ t, Fld K H a "light" (.ref t) ∧ SqT K H t ((lightP three).map V.int)
  outer : ∃ t, Fld K H a "outer" (.ref t) ∧ SqT K H t ((outerP three).map V.int)
  inner : ∃ t, Fld K H a "inner" (.ref t) ∧ SqT K H t ((innerP three).map V.int)
  near : if three then Fld K H a "near" .non else ∃ t, Fld K H a "near" (.ref t) ∧ SqT K H t (nearP.map V.int)
  far : if three then Fld K H a "far" .non else ∃ t, Fld K H a "far" (.ref t) ∧ SqT K H t (farP.map V.int)
theorem FormsAt.b {K : PySem.W.Frag} {H : Hp} {a : Addr} {three : Bool} (h : FormsAt K H a three) : FormsB K H a three := ⟨h.hm, h.sd, h.light, h.outer, h.inner, h.near, h.far⟩
theorem FormsB.monoN {K : PySem.W.Frag} {H H' : Hp} {a : Addr} {three : Bool} (e : ExN H H') (h : FormsB K H a three) : FormsB K H' a three where
  hm := e.ins h.hm
  sd := e.ins h.sd
  light := let ⟨t, h1, h2⟩ := h.light; ⟨t, e.fld h1, e.t h2⟩
  outer := let ⟨t, h1, h2⟩ := h.outer; ⟨t, e.fld h1, e.t h2⟩
  inner := let ⟨t, h1, h2⟩ := h.inner; ⟨t, e.fld h1, e.t h2⟩
  near := by
    have n := h.near
    cases three with
    | true => exact ExN.fld e n
    | false =>
      obtain ⟨t, h1, h2⟩ := n
      exact ⟨t, e.fld h1, e.t h2⟩
  far := by
    have n := h.far
    cases three with
    | true => exact ExN.fld e n
    | false =>
      obtain ⟨t, h1, h2⟩ := n
      exact ⟨t, e.fld h1, e.t h2⟩
theorem FormsB.mono {K : PySem.W.Frag} {H H' : Hp} {a : Addr} {three : Bool} (e : Ex H H') (h : FormsB K H a three) : FormsB K H' a three := h.monoN (.of e)
theorem tl_monoN {K : PySem.W.Frag} {H H' : Hp} {l : List (List Int × Int)} {ts : List V} (e : ExN H H') (h : All2 (TL K) l ts H) : All2 (TL K) l ts H' := h.mono fun _ _ r => r.mono e
theorem tl_mono {K : PySem.W.Frag} {H H' : Hp} {l : List (List Int × Int)} {ts : List V} (e : Ex H H') (h : All2 (TL K) l ts H) : All2 (TL K) l ts H' := tl_monoN (.of e) h
section
variable {K : PySem.W.Frag} {H : Hp} {Q : VK} {σ : L2.St}
theorem k_eq1st {b : Br} (q : Q (.bl (fst? b)) H) : rEq (.str b.w2) (.str "first") H Q := ⟨rfl, by
  have e : decide (V.str b.w2 = V.str "first") = fst? b := by cases b <;> decide +kernel
  rw [e]
  exact q⟩
theorem k_ifv {pt : Bool} {i j : Nat} {a b : Int} (ha : σ[i]? = some (some (.int a))) (hb : σ[j]? = some (some (.int b))) (q : Q (.int (if pt then a else b)) H) : if pt = true then tVar i σ H Q else tVar j σ H Q := by
  cases pt with
  | true => exact iteT ⟨_, ha, q⟩
  | false => exact iteF ⟨_, hb, q⟩
/-- a list written on -/
theorem k_append {l : Addr} {xs : List V} {y : V} (h : H l = some (.lst xs)) (hn : xs.length < 1000) (q : ∀ H', ExN H H' → Mu l H H' → H' l = some (.lst (xs ++ [y])) → Q .non H') : rAppend (.ref l) [y] H Q :=
  ⟨l, xs, y, rfl, rfl, h, sz _ hn, q _ (ExN.upd h) Mu.upd upd_same⟩
theorem k_extend {l b : Addr} {xs zs : List V} (h : H l = some (.lst xs)) (h2 : H b = some (.lst zs)) (hn : xs.length + zs.length < 1000) (q : ∀ H', ExN H H' → Mu l H H' → H' l = some (.lst (xs ++ zs)) → Q .non H') : rExtend (.ref l) [.ref b] H Q :=
  ⟨l, b, xs, zs, rfl, rfl, h, h2, sze _ hn, q _ (ExN.upd h) Mu.upd upd_same⟩
end
/-- a list of tests -/
def LT (K : PySem.W.Frag) (H : Hp) (l : Addr) (L : List (List Int × Int)) (n : Nat) : Prop := ∃ ts, H l = some (.lst ts) ∧ All2 (TL K) L ts H ∧ L.length ≤ n
theorem LT.mono {K : PySem.W.Frag} {H H' : Hp} {l : Addr} {L : List (List Int × Int)} {n : Nat} (e : Ex H H') (h : LT K H l L n) : LT K H' l L n :=
  let ⟨ts, h1, h2, h3⟩ := h; ⟨ts, e _ _ h1, tl_mono e h2, h3⟩
theorem LT.fair {K : PySem.W.Frag} {H : Hp} {l : Addr} {R : Rl} {xs ys : List Int} {ts : List V} (h1 : H l = some (.lst ts)) (h2 : All2 (TL K) (fairT R xs ys) ts H) : LT K H l (fairT R xs ys) 2 := ⟨ts, h1, h2, Nat.le_refl _⟩
theorem LT.turn {K : PySem.W.Frag} {H : Hp} {l : Addr} {R : Rl} {a b : Bool} {ts : List V} (h1 : H l = some (.lst ts)) (h2 : All2 (TL K) (turnT R a b) ts H) : LT K H l (turnT R a b) 1 := ⟨ts, h1, h2, by
  unfold turnT
  split <;> simp⟩
theorem none_of {H H' : Hp} {a : Addr} (e : Ex H H') (h : H' a = none) : H a = none := by
  cases q : H a with
  | none => rfl
  | some o =>
    rw [e _ _ q] at h
    cases h
theorem Ex.mu2 {H H1 H2 : Hp} {l : Addr} (e : Ex H H1) (n : H l = none) (m : Mu l H1 H2) : Ex H H2 := fun b o h => m b o (ne_of_none h n) (e b o h)
section
variable {K : PySem.W.Frag} {H : Hp} {Q : VK}
theorem k_apT {l y : Addr} {L : List (List Int × Int)} {n : Nat} {j : List Int × Int} (h : LT K H l L n) (hn : n < 900) (t : TL K j (.ref y) H) (q : ∀ H', ExN H H' → Mu l H H' → LT K H' l (L ++ [j]) (n + 1) → Q .non H') : rAppend (.ref l) [.ref y] H Q := by
  obtain ⟨ts, h1, h2, h3⟩ := h
  refine k_append h1 (by rw [h2.1]; omega) fun H' e m hl => q H' e m ⟨_, hl, (tl_monoN e h2).snoc (t.mono e), by simp; omega⟩
theorem k_exT {l b : Addr} {L L' : List (List Int × Int)} {n n' : Nat} (h : LT K H l L n) (h' : LT K H b L' n') (hn : n + n' < 900) (q : ∀ H', ExN H H' → Mu l H H' → LT K H' l (L ++ L') (n + n') → Q .non H') : rExtend (.ref l) [.ref b] H Q := by
  obtain ⟨ts, h1, h2, h3⟩ := h
  obtain ⟨ts', h1', h2', h3'⟩ := h'
  refine k_extend h1 h1' (by rw [h2.1, h2'.1]; omega) fun H' e m hl => q H' e m ⟨_, hl, (tl_monoN e h2).append (tl_monoN e h2'), by simp; omega⟩
end
theorem All2.zip_mem {α : Type} {R : α → V → Hp → Prop} {l : List α} {ys : List V} {H : Hp} (h : All2 R l ys H) {j : α × V} (hj : j ∈ l.zip ys) : R j.1 j.2 H := by
  obtain ⟨i, hi, e⟩ := List.mem_iff_getElem.mp hj
  have h2 : (l.zip ys)[i]? = some j := by rw [List.getElem?_eq_getElem hi, e]
  rw [List.getElem?_zip_eq_some] at h2
  exact h.2 i _ _ h2.1 h2.2
theorem zip_snd_all {α : Type} {l : List α} {ys : List V} (h : ys.length = l.length) : (l.zip ys).map Prod.snd = ys := List.map_snd_zip (by omega)
theorem All2.unzip {α : Type} {S : α → V → Hp → Prop} {l : List α} {us zs : List V} {H : Hp} (h : All2 (fun (j : α × V) y H => S j.1 y H) (l.zip us) zs H) (hl : us.length = l.length) : All2 S l zs H := by
  refine ⟨by rw [h.1, List.length_zip]; omega, fun i j y a b => ?_⟩
  have hi : i < us.length := by
    have := (List.getElem?_eq_some_iff.mp a).1
    omega
  have c : (l.zip us)[i]? = some (j, us[i]) := List.getElem?_zip_eq_some.mpr ⟨a, List.getElem?_eq_getElem hi⟩
  exact h.2 i _ y c b
theorem All2.mapL {α β : Type} {S : β → V → Hp → Prop} {f : α → β} {l : List α} {zs : List V} {H : Hp} (h : All2 (fun j y H => S (f j) y H) l zs H) : All2 S (l.map f) zs H := by
  refine ⟨by rw [h.1, List.length_map], fun i j y a b => ?_⟩
  rw [List.getElem?_map] at a
  cases e : l[i]? with
  | none =>
    rw [e] at a
    cases a
  | some k =>
    rw [e] at a
    cases a
    exact h.2 i k y e b
theorem units_ok {three : Bool} {u : List Int} (h : u ∈ unitsP three) : (1 ≤ u.length ∧ u.length ≤ 5) ∧ ∀ p ∈ u, -100000 < p ∧ p < 100000 := by
  cases three <;> simp only [unitsP, if_true, if_false, Bool.false_eq_true, List.mem_cons, List.not_mem_nil, or_false] at h
  · rcases h with rfl | rfl | rfl | rfl <;> decide
  · rcases h with rfl | rfl | rfl <;> decide
theorem LT.units {K : PySem.W.Frag} {H : Hp} {l : Addr} {three : Bool} {ts : List V} (h1 : H l = some (.lst ts)) (h2 : All2 (TL K) ((unitsP three).map fun u => (u, (1 : Int))) ts H) : LT K H l ((unitsP three).map fun u => (u, (1 : Int))) 4 := ⟨ts, h1, h2, by cases three <;> simp [unitsP]⟩
section
variable {K : PySem.W.Frag} {H : Hp} {Q : VK} {σ : L2.St} {to : TE} {tr : TA}
theorem k_bm {T : String} {r : V → List V → Hp → VK → Prop} (h : to σ H fun x H1 => tyV K T x H1 ∧ tr σ H1 fun xs H2 => r x xs H2 Q) : tBM K T r to tr σ H Q := h
theorem k_bmL {A : Prop} {l : Addr} {L : List (List Int × Int)} {n : Nat} (h : LT K H l L n) (q : A) : tyV K "list" (.ref l) H ∧ A := by
  obtain ⟨ts, h1, _⟩ := h
  exact ⟨Or.inl ⟨rfl, _, SqL.of h1⟩, q⟩
theorem k_bmL1 {A : Prop} {l : Addr} {ts : List V} (h1 : H l = some (.lst ts)) (q : A) : tyV K "list" (.ref l) H ∧ A := ⟨Or.inl ⟨rfl, _, SqL.of h1⟩, q⟩
end
theorem TL.mk {K : PySem.W.Frag} {H : Hp} {y : Addr} {ps : List Int} {b : Int} (h : TestAt K H y ps b) : TL K (ps, b) (.ref y) H := ⟨y, rfl, h⟩
theorem TL.mk2 {K : PySem.W.Frag} {H : Hp} {y : Addr} {j : List Int × Int} (h : TestAt K H y j.1 j.2) : TL K j (.ref y) H := ⟨y, rfl, h⟩
theorem k_tupLT {K : PySem.W.Frag} {H : Hp} {Q : VK} {l : Addr} {L : List (List Int × Int)} {n : Nat} (h : LT K H l L n) (q : ∀ t ts H', Ex H H' → H' t = some (.tup ts) → All2 (TL K) L ts H' → Q (.ref t) H') : rTupOf K [.ref l] H Q := by
  obtain ⟨ts, h1, h2, _⟩ := h
  exact k_tupL (SqL.of h1) fun t H' hn e ht => q t ts H' e ht (tl_mono e h2)
theorem All2.cast {α : Type} {R : α → V → Hp → Prop} {L L' : List α} {ts : List V} {H : Hp} (e : L' = L) (h : All2 R L ts H) : All2 R L' ts H := e ▸ h
theorem dS_put (pt : Bool) : (dS pt = Str.ofString "put") = (pt = true) := by
  cases pt
  · exact propext ⟨fun h => absurd h (by decide +kernel), fun h => by cases h⟩
  · exact propext ⟨fun _ => rfl, fun _ => rfl⟩
end M
namespace M
open PySem PySem.Spec PyProof.Rows L2 Evl
local macro_rules | `(tactic| walk_at "ar") => `(tactic| first | exact rfl | omega | (simp only [List.length_map, List.length_cons, List.length_nil] at *; omega) | decide)
local macro_rules | `(tactic| walk_at "ex") => `(tactic| first | with_reducible assumption | exact Ex.refl _ | (refine' Ex.trans ?a ?b; (case b => with_reducible assumption); (case a => walk_at "ex")) | (refine' Ex.mu2 ?a ?n ?b; (case b => with_reducible assumption); (case n => with_reducible assumption); (case a => walk_at "ex")))
local macro_rules | `(tactic| walk_at "exn") => `(tactic| first | with_reducible assumption | exact ExN.refl _ | (refine' ExN.trans ?a (ExN.of ?b); (case b => with_reducible assumption); (case a => walk_at "exn")) | (refine' ExN.trans ?a ?b; (case b => with_reducible assumption); (case a => walk_at "exn")))
local macro_rules | `(tactic| walk_at "ln") => `(tactic| first | exact rfl | omega | (simp only [scaleF, addF, List.length_map, List.length_zip, List.length_cons, List.length_nil] <;> omega))
local macro_rules | `(tactic| walk_at "kn") => `(tactic| first
  | with_reducible assumption
  | ((with_reducible refine' Fld.mono ?e ?m); (case e => with_reducible assumption); (case m => walk_at "kn"))
  | ((with_reducible refine' Ins.mono ?e ?m); (case e => with_reducible assumption); (case m => walk_at "kn"))
  | ((with_reducible refine' SqT.of ?m); (case m => walk_at "kn"))
  | ((with_reducible refine' SqL.of ?m); (case m => walk_at "kn"))
  | with_reducible exact kn_DEEDS (by assumption)
  | with_reducible exact kn_INNER (by assumption)
  | with_reducible exact kn_ONCE (by assumption)
  | with_reducible exact kn_TWICE (by assumption)
  | ((with_reducible refine' RB.mono ?e ?m); (case e => with_reducible assumption); (case m => walk_at "kn"))
  | ((with_reducible refine' RuleI.mono ?e ?m); (case e => with_reducible assumption); (case m => walk_at "kn"))
  | ((with_reducible refine' TestAt.mono ?e ?m); (case e => with_reducible assumption); (case m => walk_at "kn"))
  | ((with_reducible refine' TO_mono ?e ?m); (case e => with_reducible assumption); (case m => walk_at "kn"))
  | ((with_reducible refine' CaseAt.mono ?e ?m); (case e => with_reducible assumption); (case m => walk_at "kn"))
  | ((with_reducible refine' LT.fair ?e ?m); (case e => with_reducible assumption); (case m => with_reducible assumption))
  | ((with_reducible refine' LT.turn ?e ?m); (case e => with_reducible assumption); (case m => with_reducible assumption))
  | ((with_reducible refine' FormsB.mono ?e ?m); (case e => with_reducible assumption); (case m => walk_at "kn"))
  | ((with_reducible refine' tl_mono ?e ?m); (case e => with_reducible assumption); (case m => walk_at "kn"))
  | ((with_reducible refine' ExN.t ?e ?m); (case e => with_reducible assumption); (case m => walk_at "kn"))
  | ((with_reducible refine' ExN.fld ?e ?m); (case e => with_reducible assumption); (case m => walk_at "kn"))
  | ((with_reducible refine' ExN.ins ?e ?m); (case e => with_reducible assumption); (case m => walk_at "kn"))
  | ((with_reducible refine' RuleI.monoN ?e ?m); (case e => with_reducible assumption); (case m => walk_at "kn"))
  | ((with_reducible refine' TestAt.monoN ?e ?m); (case e => with_reducible assumption); (case m => walk_at "kn"))
  | ((with_reducible refine' CaseAt.monoN ?e ?m); (case e => with_reducible assumption); (case m => walk_at "kn"))
  | ((with_reducible refine' FormsB.monoN ?e ?m); (case e => with_reducible assumption); (case m => walk_at "kn"))
  | ((with_reducible refine' tl_monoN ?e ?m); (case e => with_reducible assumption); (case m => walk_at "kn"))
  | ((with_reducible refine' LT.mono ?e ?m); (case e => with_reducible assumption); (case m => walk_at "kn"))
  | ((with_reducible refine' ex_t ?e ?m); (case e => with_reducible assumption); (case m => walk_at "kn"))
  | ((with_reducible refine' ex_l ?e ?m); (case e => with_reducible assumption); (case m => walk_at "kn"))
  | ((with_reducible refine' Ex.at ?e ?m); (case e => with_reducible assumption); (case m => walk_at "kn"))
  | ((with_reducible refine' Mu.t ?e ?n ?m); (case e => with_reducible assumption); (case n => with_reducible assumption); (case m => walk_at "kn"))
  | ((with_reducible refine' Mu.lst ?e ?n ?m); (case e => with_reducible assumption); (case n => with_reducible assumption); (case m => walk_at "kn"))
  | ((with_reducible refine' Mu.fld ?e ?n ?m); (case e => with_reducible assumption); (case n => with_reducible assumption); (case m => walk_at "kn")))
local macro_rules | `(tactic| walk_at "st") => `(tactic| first
  | with_reducible refine k_seq ?_
  | with_reducible refine k_asg ?_
  | with_reducible refine k_ret ?_
  | with_reducible refine k_drop ?_
  | with_reducible refine k_ifS ?_
  | with_reducible refine k_name ?_
  | with_reducible refine k_next ?_
  | ((with_reducible refine' k_var ?hv ?_); case hv => exact rfl)
  | with_reducible refine k_c ?_
  | with_reducible refine k_fld ?_
  | ((with_reducible refine' k_fld2 ?hv ?_); case hv => walk_at "kn")
  | with_reducible refine k_op ?_
  | with_reducible refine k_un ?_
  | with_reducible refine k_add ?_
  | with_reducible refine k_sub ?_
  | with_reducible refine k_neg ?_
  | ((with_reducible refine' k_mul ?hv ?_); case hv => first | (left; constructor <;> omega) | (right; constructor <;> omega))
  | ((with_reducible refine' k_fdiv ?hv ?_); case hv => constructor <;> omega)
  | ((with_reducible refine' k_mod ?hv ?_); case hv => omega)
  | with_reducible refine k_lt ?_
  | with_reducible refine k_le ?_
  | with_reducible refine k_gt ?_
  | with_reducible refine k_ge ?_
  | with_reducible refine k_eqI ?_
  | with_reducible refine k_eqT ?_
  | with_reducible refine k_neI ?_
  | with_reducible refine k_isN_int ?_
  | with_reducible refine k_isN_ref ?_
  | with_reducible refine k_isN_non ?_
  | with_reducible refine k_notN_int ?_
  | with_reducible refine k_notN_ref ?_
  | with_reducible refine k_notN_non ?_
  | with_reducible refine k_test ?_
  | with_reducible refine k_B ?_
  | with_reducible refine k_bx ?_
  | with_reducible refine k_not ?_
  | with_reducible refine k_notV ?_
  | with_reducible refine k_and ?_
  | with_reducible refine k_or ?_
  | with_reducible refine k_andV ?_
  | with_reducible refine k_orV ?_
  | with_reducible refine k_if ?_
  | with_reducible refine k_chain ?_
  | with_reducible refine iteT ?_
  | with_reducible refine iteF ?_
  | with_reducible refine k_nil ?_
  | with_reducible refine k_cons ?_
  | with_reducible refine k_tup ?_
  | with_reducible refine k_lst ?_
  | with_reducible refine k_call ?_
  | with_reducible refine k_meth ?_
  | ((with_reducible refine' k_meth2 ?hv ?_); case hv => walk_at "kn")
  | with_reducible refine k_make ?_
  | with_reducible refine k_cb ?_
  | with_reducible refine k_min2 ?_
  | with_reducible refine k_max2 ?_
  | with_reducible refine k_int1 ?_
  | with_reducible refine k_int1b ?_
  | with_reducible refine k_abs1 ?_
  | ((with_reducible refine' k_gtup ?hv ?hw ?_); (case hv => walk_at "kn"); (case hw => rfl))
  | with_reducible refine k_gcons ?_
  | with_reducible refine k_gnil ?_
  | with_reducible refine k_isi_ii ?_
  | with_reducible refine k_isi_ib ?_
  | with_reducible refine k_isi_ss ?_
  | ((with_reducible refine' k_isi_tt ?hv ?_); case hv => walk_at "kn")
  | with_reducible refine iteNT ?_
  | with_reducible refine iteNF ?_
  | with_reducible refine k_cval ?_
  | ((with_reducible refine' k_cval2 ?hv ?_); case hv => exact kn_most (by assumption))
  | with_reducible refine k_lc ?_
  | with_reducible refine k_iT ?_
  | ((with_reducible refine' k_iT2 ?hv ?_); case hv => walk_at "kn")
  | with_reducible refine k_iL ?_
  | ((with_reducible refine' k_iL2 ?hv ?_); case hv => walk_at "kn")
  | with_reducible refine k_i1 ?_
  | ((with_reducible refine' k_i1a ?hv ?_); case hv => constructor <;> omega)
  | with_reducible refine k_i2 ?_
  | ((with_reducible refine' k_i2a ?hv ?_); case hv => refine ⟨?_, ?_, ?_, ?_⟩ <;> omega)
  | with_reducible refine k_iZ ?_
  | ((with_reducible refine' k_iZa ?hv ?hw ?_); (case hv => walk_at "kn"); (case hw => walk_at "kn"))
  | with_reducible refine k_iN ?_
  | ((with_reducible refine' k_lenT ?hv ?_); case hv => walk_at "kn")
  | ((with_reducible refine' k_lenL ?hv ?_); case hv => walk_at "kn")
  | ((with_reducible refine' k_ixT ?hv ?hw ?_); (case hv => walk_at "kn"); (case hw => rfl))
  | ((with_reducible refine' k_tupL ?hv ?_); (case hv => walk_at "kn"); (refine' fun _ _ _ _ _ => ?_))
  | ((with_reducible refine' k_tupT ?hv ?_); (case hv => walk_at "kn"))
  | ((with_reducible refine' k_new ?hv ?_); (case hv => (simp only [List.length_cons, List.length_nil]; exact sze _ (by omega))); (refine' fun _ _ _ _ _ => ?_))
  | ((with_reducible refine' k_isiW ?hT ?hv ?_); (case hT => assumption); (case hv => walk_at "kn"))
  | ((with_reducible refine' k_isiT ?hT ?hv ?_); (case hT => assumption); (case hv => walk_at "kn"))
  | ((with_reducible refine' k_isiC ?hT ?hv ?_); (case hT => assumption); (case hv => walk_at "kn"))
  | ((with_reducible refine' k_isiLT ?hv ?hw ?_); (case hv => walk_at "kn"); (case hw => walk_at "kn"))
  | ((with_reducible refine' k_isN_TO ?hv ?_); (case hv => walk_at "kn"))
  | ((with_reducible refine' k_notN_TO ?hv ?_); (case hv => walk_at "kn"))
  | ((with_reducible refine' k_notInDeeds ?hv ?_); (case hv => walk_at "kn"))
  | with_reducible refine k_eqPut ?_
  | ((refine' k_eqB .inn ?hv ?hw ?hx ?_); (case hv => walk_at "kn"); (case hw => walk_at "kn"); (case hx => rfl))
  | ((refine' k_eqB .lf ?hv ?hw ?hx ?_); (case hv => walk_at "kn"); (case hw => walk_at "kn"); (case hx => rfl))
  | ((refine' k_eqB .ls ?hv ?hw ?hx ?_); (case hv => walk_at "kn"); (case hw => walk_at "kn"); (case hx => rfl))
  | ((refine' k_eqB .ff ?hv ?hw ?hx ?_); (case hv => walk_at "kn"); (case hw => walk_at "kn"); (case hx => rfl))
  | ((refine' k_eqB .fs ?hv ?hw ?hx ?_); (case hv => walk_at "kn"); (case hw => walk_at "kn"); (case hx => rfl))
  | ((refine' k_eqB .tf ?hv ?hw ?hx ?_); (case hv => walk_at "kn"); (case hw => walk_at "kn"); (case hx => rfl))
  | ((with_reducible refine' k_yes ?hv ?_); (case hv => walk_at "ar"))
  | ((with_reducible refine' k_no ?hv ?_); (case hv => walk_at "ar"))
  | ((with_reducible refine' k_nyes ?hv ?_); (case hv => walk_at "ar"))
  | ((with_reducible refine' k_nno ?hv ?_); (case hv => walk_at "ar"))
  | with_reducible refine k_sfld ?_
  | ((with_reducible refine' k_ixL ?hv ?hw ?_); (case hv => walk_at "kn"); (case hw => rfl))
  | ((with_reducible refine' k_sumTu _ ?hv ?_); (case hv => walk_at "kn"))
  | ((with_reducible refine' u_is_integer  ?_); (refine' fun _ _ => ?_))
  | ((with_reducible refine' u_over ?ha ?_); (case ha => constructor <;> omega); (refine' fun _ _ => ?_))
  | ((with_reducible refine' u_is_within ?ha ?_); (case ha => constructor <;> omega); (refine' fun _ _ => ?_))
  | ((with_reducible refine' u_need_plus ?ha ?_); (case ha => constructor <;> omega); (refine' fun _ _ => ?_))
  | ((with_reducible refine' u_need_weight ?ha ?_); (case ha => constructor <;> omega); (refine' fun _ _ => ?_))
  | ((with_reducible refine' u_is_times ?ha ?hb ?_); (case ha => walk_at "kn"); (case hb => refine ⟨⟨?_, ?_⟩, ?_, ?_⟩ <;> omega); (refine' fun _ _ => ?_))
  | ((with_reducible refine' u_beside ?ha ?_); (case ha => walk_at "kn"); (refine' fun _ _ => ?_))
  | ((with_reducible refine' u_greatest ?ha ?hb ?_); (case ha => walk_at "kn"); (case hb => constructor <;> omega); (refine' fun _ _ => ?_))
  | ((with_reducible refine' u_need_weight_rule ?ha ?_); (case ha => walk_at "kn"); (refine' fun _ _ => ?_))
  | ((with_reducible refine' u_need_deed  ?_); (refine' fun _ _ => ?_))
  | ((with_reducible refine' u_has_three ?ha ?_); (case ha => walk_at "kn"); (refine' fun _ _ => ?_))
  | ((with_reducible refine' u_scaled ?ha ?hb ?_); (case ha => walk_at "kn"); (case hb => refine ⟨⟨?_, ?_⟩, ?_⟩ <;> (walk_at "ln")); (refine' fun _ _ _ _ => ?_))
  | ((with_reducible refine' u_added ?ha ?hb ?hc ?_); (case ha => walk_at "kn"); (case hb => walk_at "kn"); (case hc => constructor <;> (walk_at "ln")); (refine' fun _ _ _ _ => ?_))
  | ((with_reducible refine' u_amount ?ha ?hb ?hc ?_); (case ha => walk_at "kn"); (case hb => walk_at "kn"); (case hc => assumption); (refine' fun _ _ => ?_)))
local macro_rules | `(tactic| walk_at "go") => `(tactic| repeat (walk_at "st"))
local macro_rules | `(tactic| walk_at "run") => `(tactic| (dsimp only [cxK]; walk_at "go"))

section
variable {P : Program} {w : World} {K : PySem.W.Frag} {mg : Str → Option Value} {base : Heap}
local macro_rules | `(tactic| walk_at "st") => `(tactic| first
  | ((with_reducible refine' u_mk_Test ?ha ?hb ?_); (case ha => walk_at "kn"); (case hb => assumption); (refine' fun _ _ _ _ => ?_)))
local macro_rules | `(tactic| walk_at "st") => `(tactic| first
  | ((with_reducible refine' k_eq1st  ?_)))
/-! Forms' methods -/
def sp_Forms_heavy_form (K : PySem.W.Frag) : Sp := PR (fun i : Addr × Bool => [.ref i.1]) (fun i H => FormsB K H i.1 i.2) fun i _ v H' => ∃ t, v = .ref t ∧ SqT K H' t ((heavyP i.2).map V.int)
theorem ok_Forms_heavy_form (T : TX K mg) : Ok P w K mg base 3 (He.ma K (He.ga K "Forms") "heavy_form") ["self"] (sp_Forms_heavy_form K) := by
  obtain ⟨fd, F⟩ := T.F_Forms_heavy_form
  obtain ⟨G_added, k_added⟩ := ok_added (P := P) (w := w) (base := base) T
  refine ⟨fd, okN F sc_Forms_heavy_form (by first | exact SV.len (fun _ => rfl) | exact PR.len (fun _ => rfl) | exact SJ.len (fun _ => rfl) | exact spEqB_len) (fun cdv A outer s H vs Q E hr h => ?_), F.bindsN (fun _ _ _ _ _ _ us hl => match us, hl with | [_], _ => rfl), F.kp⟩
  obtain ⟨⟨a, three⟩, rfl, ⟨h1, h2, ⟨tl, l1, l2⟩, ⟨to, o1, o2⟩, ⟨ti, i1, i2⟩, _⟩, q⟩ := h
  dsimp only at l2 o2 i2 q
  have c1 := (bl_inner three).len
  have c2 := (bl_outer three).len
  have c3 : (innerP three).length < 1000 := by rw [c1]; split <;> omega
  refine ⟨_, (pss_one (ps_ret (pe_callR G_added (hr.mono (by decide)) k_added (by rfl) T.g_added pass0 (pa_cons (pe_fld (pv 0) rfl) (pa_cons (pe_fld (pv 0) rfl) pa_nil))))), ?_⟩
  walk_at "run"
  refine q _ _ ?_ ⟨_, rfl, ?_⟩
  · walk_at "ex"
  · show SqT K _ _ ((addF (innerP three) (outerP three)).map V.int)
    walk_at "kn"
theorem u_heavy_form {a : Addr} {three : Bool} {H : Hp} {Q : VK} {E : XK} (h : FormsB K H a three) (q : ∀ t H', Ex H H' → SqT K H' t ((heavyP three).map V.int) → Q (.ref t) H') : sp_Forms_heavy_form K [.ref a] H Q E :=
  ⟨(a, three), rfl, h, fun v H' e ⟨t, ev, h⟩ => ev ▸ q t H' e h⟩
local macro_rules | `(tactic| walk_at "st") => `(tactic| first
  | ((with_reducible refine' u_heavy_form ?ha ?_); (case ha => walk_at "kn"); (refine' fun _ _ _ _ => ?_)))
def sp_Forms_sides (K : PySem.W.Frag) : Sp := PR (fun i : Addr × Bool × Bool × Br => [.ref i.1, .bl i.2.2.1, .str i.2.2.2.w1]) (fun i H => FormsB K H i.1 i.2.1 ∧ i.2.2.2 ≠ .inn ∧ (i.2.2.1 = true → i.2.1 = false) ∧ (i.2.2.1 = false → i.2.2.2 ≠ .ff ∧ i.2.2.2 ≠ .fs))
  fun i _ v H' => ∃ t a b, v = .ref t ∧ SqT K H' t [.ref a, .ref b] ∧ SqT K H' a ((sidesP i.2.1 i.2.2.1 i.2.2.2).1.map V.int) ∧ SqT K H' b ((sidesP i.2.1 i.2.2.1 i.2.2.2).2.map V.int)
theorem sides_fin {H H' : Hp} {Q : VK} {t a b : Addr} {xs ys : List V} (q : ∀ v H', Ex H H' → (∃ t a b, v = .ref t ∧ SqT K H' t [.ref a, .ref b] ∧ SqT K H' a xs ∧ SqT K H' b ys) → Q v H') (e : Ex H H') (h1 : SqT K H' t [.ref a, .ref b]) (h2 : SqT K H' a xs) (h3 : SqT K H' b ys) : Q (.ref t) H' :=
  q _ _ e ⟨t, a, b, rfl, h1, h2, h3⟩
theorem ok_Forms_sides (T : TX K mg) : Ok P w K mg base 3 (He.ma K (He.ga K "Forms") "sides") ["self", "is_twice", "root"] (sp_Forms_sides K) := by
  obtain ⟨fd, F⟩ := T.F_Forms_sides
  obtain ⟨G_added, k_added⟩ := ok_added (P := P) (w := w) (base := base) T
  refine ⟨fd, okN F sc_Forms_sides (by first | exact SV.len (fun _ => rfl) | exact PR.len (fun _ => rfl) | exact SJ.len (fun _ => rfl) | exact spEqB_len) (fun cdv A outer s H vs Q E hr h => ?_), F.bindsN (fun _ _ _ _ _ _ us hl => match us, hl with | [_, _, _], _ => rfl), F.kp⟩
  obtain ⟨⟨a, three, tw, b⟩, rfl, ⟨⟨h1, h2, ⟨tl, l1, l2⟩, ⟨to, o1, o2⟩, ⟨ti, i1, i2⟩, hn, hf⟩, hb, ht, hw⟩, q⟩ := h
  dsimp only at l2 o2 i2 hb ht hw q hn hf
  have c0 := (bl_light three).len
  have c1 := (bl_inner three).len
  have c2 := (bl_outer three).len
  have c3 : (innerP three).length < 1000 := by rw [c1]; split <;> omega
  have c4 := bl_near.len
  have c5 := bl_far.len
  refine ⟨_, (pss_cons (ps_if (pt_not (pt_val (pv 1))) (pss_one (ps_ret (pe_ifExp (pt_cmpR op_eq (pv 2) pe_str (nomark _)) (pe_tup (pa_cons (pe_fld (pv 0) rfl) (pa_cons (pe_fld (pv 0) rfl) pa_nil))) (pe_tup (pa_cons (pe_callR G_added (hr.mono (by decide)) k_added (by rfl) T.g_added pass0 (pa_cons (pe_fld (pv 0) rfl) (pa_cons (pe_fld (pv 0) rfl) pa_nil))) (pa_cons (pe_fld (pv 0) rfl) pa_nil)))))) pss_nil)
      (pss_cons (ps_if (pt_cmpR op_eq (pv 2) pe_str (nomark _)) (pss_one (ps_ret (pe_tup (pa_cons (pe_fld (pv 0) rfl) (pa_cons (pe_fld (pv 0) rfl) pa_nil))))) pss_nil)
      (pss_one (ps_ret (pe_ifExp (pt_cmpR op_eq (pv 2) pe_str (nomark _)) (pe_tup (pa_cons (pe_fld (pv 0) rfl) (pa_cons (pe_fld (pv 0) rfl) pa_nil))) (pe_tup (pa_cons (pe_callR G_added (hr.mono (by decide)) k_added (by rfl) T.g_added pass0 (pa_cons (pe_fld (pv 0) rfl) (pa_cons (pe_fld (pv 0) rfl) pa_nil))) (pa_cons (pe_callR G_added (hr.mono (by decide)) k_added (by rfl) T.g_added pass0 (pa_cons (pe_fld (pv 0) rfl) (pa_cons (pe_fld (pv 0) rfl) pa_nil))) pa_nil)))))))), ?_⟩
  walk_at "run"
  cases tw with
  | false =>
    obtain ⟨w1, w2⟩ := hw rfl
    cases b <;> first
    | exact absurd rfl hb
    | exact absurd rfl w1
    | exact absurd rfl w2
    | skip
    all_goals dsimp only [Br.w1, sidesP] at *
    all_goals walk_at "go"
    all_goals apply sides_fin q
    all_goals first
    | walk_at "ex"
    | walk_at "kn"
  | true =>
    cases ht rfl
    obtain ⟨tn, n1, n2⟩ := hn
    obtain ⟨tf, f1, f2⟩ := hf
    cases b <;> first
    | exact absurd rfl hb
    | skip
    all_goals dsimp only [Br.w1, sidesP] at *
    all_goals walk_at "go"
    all_goals apply sides_fin q
    all_goals first
    | walk_at "ex"
    | walk_at "kn"
theorem u_sides {a : Addr} {three tw : Bool} {b : Br} {H : Hp} {Q : VK} {E : XK} (h : FormsB K H a three) (hc : b ≠ .inn ∧ (tw = true → three = false) ∧ (tw = false → b ≠ .ff ∧ b ≠ .fs))
    (q : ∀ t a b', ∀ H', Ex H H' → SqT K H' t [.ref a, .ref b'] → SqT K H' a ((sidesP three tw b).1.map V.int) → SqT K H' b' ((sidesP three tw b).2.map V.int) → Q (.ref t) H') : sp_Forms_sides K [.ref a, .bl tw, .str b.w1] H Q E :=
  ⟨(a, three, tw, b), rfl, ⟨h, hc.1, hc.2.1, hc.2.2⟩, fun v H' e ⟨t, a', b', ev, h1, h2, h3⟩ => ev ▸ q t a' b' H' e h1 h2 h3⟩
local macro_rules | `(tactic| walk_at "st") => `(tactic| first
  | ((with_reducible refine' u_sides ?ha ?hb ?_); (case ha => walk_at "kn"); (case hb => assumption); (refine' fun _ _ _ _ _ _ _ _ => ?_)))
/-! tests of a rule -/
def sp_fair_tests (K : PySem.W.Frag) : Sp := PR (fun i : Addr × Addr × Addr × Rl × Nat × List Int × List Int => [.ref i.1, .ref i.2.1, .ref i.2.2.1])
  (fun i H => RuleI K H i.1 i.2.2.2.1 ∧ SqT K H i.2.1 (i.2.2.2.2.2.1.map V.int) ∧ SqT K H i.2.2.1 (i.2.2.2.2.2.2.map V.int) ∧ (1 ≤ i.2.2.2.2.1 ∧ i.2.2.2.2.1 ≤ 5) ∧ BL i.2.2.2.2.1 4 i.2.2.2.2.2.1 ∧ BL i.2.2.2.2.1 4 i.2.2.2.2.2.2)
  fun i _ v H' => ∃ l ts, v = .ref l ∧ H' l = some (.lst ts) ∧ All2 (TL K) (fairT i.2.2.2.1 i.2.2.2.2.2.1 i.2.2.2.2.2.2) ts H'
theorem ok_fair_tests (T : TX K mg) : Ok P w K mg base 5 (He.ga K "fair_tests") ["rule", "one", "other"] (sp_fair_tests K) := by
  obtain ⟨fd, F⟩ := T.F_fair_tests
  obtain ⟨_, G_Test_init, b_Test_init, k_Test_init⟩ := ok_Test_init (P := P) (w := w) (base := base) T
  obtain ⟨G_added, k_added⟩ := ok_added (P := P) (w := w) (base := base) T
  obtain ⟨_, G_scaled, b_scaled, k_scaled⟩ := ok_scaled (P := P) (w := w) (base := base) T
  refine ⟨fd, okN F sc_fair_tests (by first | exact SV.len (fun _ => rfl) | exact PR.len (fun _ => rfl) | exact SJ.len (fun _ => rfl) | exact spEqB_len) (fun cdv A outer s H vs Q E hr h => ?_), F.bindsN (fun _ _ _ _ _ _ us hl => match us, hl with | [_, _, _], _ => rfl), F.kp⟩
  obtain ⟨⟨r, a, b, R, n, xs, ys⟩, rfl, ⟨hR, h1, h2, hn, b1, b2⟩, q⟩ := h
  dsimp only at hR h1 h2 hn b1 b2 q
  obtain ⟨⟨tp, r1, r2⟩, r3⟩ := hR.rb
  have q1 := hR.ok.q1
  have qp := hR.ok.qp
  have p6 := hR.ok.p6
  have l1 := b1.len
  have l2 := b2.len
  have t1 := pq_test (a := R.p) (b := -R.q) hn b1 b2 (by omega) (by omega)
  have t2 := pq_test (a := R.p) (b := -R.q) hn b2 b1 (by omega) (by omega)
  refine ⟨_, (pss_cons (ps_asg (pe_fld (pv 0) rfl) (pg_tupK K 2 rfl rfl (pgs_cons (pg_name (i := 3) sc_fair_tests.nd rfl (by first | exact Or.inl rfl | exact Or.inr rfl)) (pgs_cons (pg_name (i := 4) sc_fair_tests.nd rfl (by first | exact Or.inl rfl | exact Or.inr rfl)) pgs_nil)) rfl rfl))
      (pss_one (ps_ret (pe_lst (pa_cons (pe_make T.mk_Test G_Test_init (hr.mono (by decide)) (by rfl) T.g_Test b_Test_init .nil pass0 (pa_cons (pe_callR G_added (hr.mono (by decide)) k_added (by rfl) T.g_added pass0 (pa_cons (pe_call G_scaled (hr.mono (by decide)) (by rfl) T.g_scaled k_scaled b_scaled .nil pass0 (pa_cons (pv 3) (pa_cons (pv 1) pa_nil))) (pa_cons (pe_call G_scaled (hr.mono (by decide)) (by rfl) T.g_scaled k_scaled b_scaled .nil pass0 (pa_cons (pe_un un_neg (pv 4)) (pa_cons (pv 2) pa_nil))) pa_nil))) (pa_cons (pe_un un_neg (pe_fld (pv 0) rfl)) pa_nil))) (pa_cons (pe_make T.mk_Test G_Test_init (hr.mono (by decide)) (by rfl) T.g_Test b_Test_init .nil pass0 (pa_cons (pe_callR G_added (hr.mono (by decide)) k_added (by rfl) T.g_added pass0 (pa_cons (pe_call G_scaled (hr.mono (by decide)) (by rfl) T.g_scaled k_scaled b_scaled .nil pass0 (pa_cons (pv 3) (pa_cons (pv 2) pa_nil))) (pa_cons (pe_call G_scaled (hr.mono (by decide)) (by rfl) T.g_scaled k_scaled b_scaled .nil pass0 (pa_cons (pe_un un_neg (pv 4)) (pa_cons (pv 1) pa_nil))) pa_nil))) (pa_cons (pe_un un_neg (pe_fld (pv 0) rfl)) pa_nil))) pa_nil)))))), ?_⟩
  walk_at "run"
  refine q _ _ ?_ ⟨_, _, rfl, by assumption, .mk ⟨_, rfl, ?_⟩ (.mk ⟨_, rfl, ?_⟩ .nil)⟩
  · walk_at "ex"
  · walk_at "kn"
  · walk_at "kn"
theorem u_fair_tests {r a b : Addr} {R : Rl} {n : Nat} {xs ys : List Int} {H : Hp} {Q : VK} {E : XK} (hR : RuleI K H r R) (h1 : SqT K H a (xs.map V.int)) (h2 : SqT K H b (ys.map V.int)) (hb : (1 ≤ n ∧ n ≤ 5) ∧ BL n 4 xs ∧ BL n 4 ys)
    (q : ∀ l ts H', Ex H H' → H' l = some (.lst ts) → All2 (TL K) (fairT R xs ys) ts H' → Q (.ref l) H') : sp_fair_tests K [.ref r, .ref a, .ref b] H Q E :=
  ⟨(r, a, b, R, n, xs, ys), rfl, ⟨hR, h1, h2, hb.1, hb.2.1, hb.2.2⟩, fun v H' e ⟨l, ts, ev, h, h'⟩ => ev ▸ q l ts H' e h h'⟩
local macro_rules | `(tactic| walk_at "st") => `(tactic| first
  | ((with_reducible refine' u_fair_tests ?ha ?hb ?hc ?hd ?_); (case ha => walk_at "kn"); (case hb => walk_at "kn"); (case hc => walk_at "kn"); (case hd => assumption); (refine' fun _ _ _ _ _ _ => ?_)))
def sp_unfair_test (K : PySem.W.Frag) : Sp := PR (fun i : Addr × Addr × Addr × Rl × Nat × List Int × List Int => [.ref i.1, .ref i.2.1, .ref i.2.2.1])
  (fun i H => RuleI K H i.1 i.2.2.2.1 ∧ SqT K H i.2.1 (i.2.2.2.2.2.1.map V.int) ∧ SqT K H i.2.2.1 (i.2.2.2.2.2.2.map V.int) ∧ (1 ≤ i.2.2.2.2.1 ∧ i.2.2.2.2.1 ≤ 5) ∧ BL i.2.2.2.2.1 4 i.2.2.2.2.2.1 ∧ BL i.2.2.2.2.1 4 i.2.2.2.2.2.2)
  fun i _ v H' => TL K (unfT i.2.2.2.1 i.2.2.2.2.2.1 i.2.2.2.2.2.2) v H'
theorem ok_unfair_test (T : TX K mg) : Ok P w K mg base 5 (He.ga K "unfair_test") ["rule", "heavier", "lighter"] (sp_unfair_test K) := by
  obtain ⟨fd, F⟩ := T.F_unfair_test
  obtain ⟨_, G_Test_init, b_Test_init, k_Test_init⟩ := ok_Test_init (P := P) (w := w) (base := base) T
  obtain ⟨G_added, k_added⟩ := ok_added (P := P) (w := w) (base := base) T
  obtain ⟨_, G_scaled, b_scaled, k_scaled⟩ := ok_scaled (P := P) (w := w) (base := base) T
  refine ⟨fd, okN F sc_unfair_test (by first | exact SV.len (fun _ => rfl) | exact PR.len (fun _ => rfl) | exact SJ.len (fun _ => rfl) | exact spEqB_len) (fun cdv A outer s H vs Q E hr h => ?_), F.bindsN (fun _ _ _ _ _ _ us hl => match us, hl with | [_, _, _], _ => rfl), F.kp⟩
  obtain ⟨⟨r, a, b, R, n, xs, ys⟩, rfl, ⟨hR, h1, h2, hn, b1, b2⟩, q⟩ := h
  dsimp only at hR h1 h2 hn b1 b2 q
  obtain ⟨⟨tp, r1, r2⟩, r3⟩ := hR.rb
  have q1 := hR.ok.q1
  have qp := hR.ok.qp
  have p6 := hR.ok.p6
  have l1 := b1.len
  have l2 := b2.len
  have t1 := pq_test (a := R.q) (b := -R.p) hn b1 b2 (by omega) (by omega)
  refine ⟨_, (pss_cons (ps_asg (pe_fld (pv 0) rfl) (pg_tupK K 2 rfl rfl (pgs_cons (pg_name (i := 3) sc_unfair_test.nd rfl (by first | exact Or.inl rfl | exact Or.inr rfl)) (pgs_cons (pg_name (i := 4) sc_unfair_test.nd rfl (by first | exact Or.inl rfl | exact Or.inr rfl)) pgs_nil)) rfl rfl))
      (pss_one (ps_ret (pe_make T.mk_Test G_Test_init (hr.mono (by decide)) (by rfl) T.g_Test b_Test_init .nil pass0 (pa_cons (pe_callR G_added (hr.mono (by decide)) k_added (by rfl) T.g_added pass0 (pa_cons (pe_call G_scaled (hr.mono (by decide)) (by rfl) T.g_scaled k_scaled b_scaled .nil pass0 (pa_cons (pv 4) (pa_cons (pv 1) pa_nil))) (pa_cons (pe_call G_scaled (hr.mono (by decide)) (by rfl) T.g_scaled k_scaled b_scaled .nil pass0 (pa_cons (pe_un un_neg (pv 3)) (pa_cons (pv 2) pa_nil))) pa_nil))) (pa_cons (pe_op op_add (pe_fld (pv 0) rfl) pe_int) pa_nil)))))), ?_⟩
  walk_at "run"
  refine q _ _ ?_ ⟨_, rfl, ?_⟩
  · walk_at "ex"
  · show TestAt K _ _ (addF (scaleF R.q xs) (scaleF (-R.p) ys)) (R.k + 1)
    walk_at "kn"
theorem u_unfair_test {r a b : Addr} {R : Rl} {n : Nat} {xs ys : List Int} {H : Hp} {Q : VK} {E : XK} (hR : RuleI K H r R) (h1 : SqT K H a (xs.map V.int)) (h2 : SqT K H b (ys.map V.int)) (hb : (1 ≤ n ∧ n ≤ 5) ∧ BL n 4 xs ∧ BL n 4 ys)
    (q : ∀ t H', Ex H H' → TestAt K H' t (unfT R xs ys).1 (unfT R xs ys).2 → Q (.ref t) H') : sp_unfair_test K [.ref r, .ref a, .ref b] H Q E :=
  ⟨(r, a, b, R, n, xs, ys), rfl, ⟨hR, h1, h2, hb.1, hb.2.1, hb.2.2⟩, fun v H' e ⟨t, ev, h⟩ => ev ▸ q t H' e h⟩
local macro_rules | `(tactic| walk_at "st") => `(tactic| first
  | ((with_reducible refine' u_unfair_test ?ha ?hb ?hc ?hd ?_); (case ha => walk_at "kn"); (case hb => walk_at "kn"); (case hc => walk_at "kn"); (case hd => assumption); (refine' fun _ _ _ _ => ?_)))

end
end M
namespace M
open PySem PySem.Spec PyProof.Rows L2 Evl
local macro_rules | `(tactic| walk_at "ar") => `(tactic| first | exact rfl | omega | (simp only [List.length_map, List.length_cons, List.length_nil] at *; omega) | decide)
local macro_rules | `(tactic| walk_at "ex") => `(tactic| first | with_reducible assumption | exact Ex.refl _ | (refine' Ex.trans ?a ?b; (case b => with_reducible assumption); (case a => walk_at "ex")) | (refine' Ex.mu2 ?a ?n ?b; (case b => with_reducible assumption); (case n => with_reducible assumption); (case a => walk_at "ex")))
local macro_rules | `(tactic| walk_at "exn") => `(tactic| first | with_reducible assumption | exact ExN.refl _ | (refine' ExN.trans ?a (ExN.of ?b); (case b => with_reducible assumption); (case a => walk_at "exn")) | (refine' ExN.trans ?a ?b; (case b => with_reducible assumption); (case a => walk_at "exn")))
local macro_rules | `(tactic| walk_at "ln") => `(tactic| first | exact rfl | omega | (simp only [scaleF, addF, List.length_map, List.length_zip, List.length_cons, List.length_nil] <;> omega))
local macro_rules | `(tactic| walk_at "kn") => `(tactic| first
  | with_reducible assumption
  | ((with_reducible refine' Fld.mono ?e ?m); (case e => with_reducible assumption); (case m => walk_at "kn"))
  | ((with_reducible refine' Ins.mono ?e ?m); (case e => with_reducible assumption); (case m => walk_at "kn"))
  | ((with_reducible refine' SqT.of ?m); (case m => walk_at "kn"))
  | ((with_reducible refine' SqL.of ?m); (case m => walk_at "kn"))
  | with_reducible exact kn_DEEDS (by assumption)
  | with_reducible exact kn_INNER (by assumption)
  | with_reducible exact kn_ONCE (by assumption)
  | with_reducible exact kn_TWICE (by assumption)
  | ((with_reducible refine' RB.mono ?e ?m); (case e => with_reducible assumption); (case m => walk_at "kn"))
  | ((with_reducible refine' RuleI.mono ?e ?m); (case e => with_reducible assumption); (case m => walk_at "kn"))
  | ((with_reducible refine' TestAt.mono ?e ?m); (case e => with_reducible assumption); (case m => walk_at "kn"))
  | ((with_reducible refine' TO_mono ?e ?m); (case e => with_reducible assumption); (case m => walk_at "kn"))
  | ((with_reducible refine' CaseAt.mono ?e ?m); (case e => with_reducible assumption); (case m => walk_at "kn"))
  | ((with_reducible refine' LT.fair ?e ?m); (case e => with_reducible assumption); (case m => with_reducible assumption))
  | ((with_reducible refine' LT.turn ?e ?m); (case e => with_reducible assumption); (case m => with_reducible assumption))
  | ((with_reducible refine' FormsB.mono ?e ?m); (case e => with_reducible assumption); (case m => walk_at "kn"))
  | ((with_reducible refine' tl_mono ?e ?m); (case e => with_reducible assumption); (case m => walk_at "kn"))
  | ((with_reducible refine' ExN.t ?e ?m); (case e => with_reducible assumption); (case m => walk_at "kn"))
  | ((with_reducible refine' ExN.fld ?e ?m); (case e => with_reducible assumption); (case m => walk_at "kn"))
  | ((with_reducible refine' ExN.ins ?e ?m); (case e => with_reducible assumption); (case m => walk_at "kn"))
  | ((with_reducible refine' RuleI.monoN ?e ?m); (case e => with_reducible assumption); (case m => walk_at "kn"))
  | ((with_reducible refine' TestAt.monoN ?e ?m); (case e => with_reducible assumption); (case m => walk_at "kn"))
  | ((with_reducible refine' CaseAt.monoN ?e ?m); (case e => with_reducible assumption); (case m => walk_at "kn"))
  | ((with_reducible refine' FormsB.monoN ?e ?m); (case e => with_reducible assumption); (case m => walk_at "kn"))
  | ((with_reducible refine' tl_monoN ?e ?m); (case e => with_reducible assumption); (case m => walk_at "kn"))
  | ((with_reducible refine' LT.mono ?e ?m); (case e => with_reducible assumption); (case m => walk_at "kn"))
  | ((with_reducible refine' ex_t ?e ?m); (case e => with_reducible assumption); (case m => walk_at "kn"))
  | ((with_reducible refine' ex_l ?e ?m); (case e => with_reducible assumption); (case m => walk_at "kn"))
  | ((with_reducible refine' Ex.at ?e ?m); (case e => with_reducible assumption); (case m => walk_at "kn"))
  | ((with_reducible refine' Mu.t ?e ?n ?m); (case e => with_reducible assumption); (case n => with_reducible assumption); (case m => walk_at "kn"))
  | ((with_reducible refine' Mu.lst ?e ?n ?m); (case e => with_reducible assumption); (case n => with_reducible assumption); (case m => walk_at "kn"))
  | ((with_reducible refine' Mu.fld ?e ?n ?m); (case e => with_reducible assumption); (case n => with_reducible assumption); (case m => walk_at "kn")))
local macro_rules | `(tactic| walk_at "st") => `(tactic| first
  | with_reducible refine k_seq ?_
  | with_reducible refine k_asg ?_
  | with_reducible refine k_ret ?_
  | with_reducible refine k_drop ?_
  | with_reducible refine k_ifS ?_
  | with_reducible refine k_name ?_
  | with_reducible refine k_next ?_
  | ((with_reducible refine' k_var ?hv ?_); case hv => exact rfl)
  | with_reducible refine k_c ?_
  | with_reducible refine k_fld ?_
  | ((with_reducible refine' k_fld2 ?hv ?_); case hv => walk_at "kn")
  | with_reducible refine k_op ?_
  | with_reducible refine k_un ?_
  | with_reducible refine k_add ?_
  | with_reducible refine k_sub ?_
  | with_reducible refine k_neg ?_
  | ((with_reducible refine' k_mul ?hv ?_); case hv => first | (left; constructor <;> omega) | (right; constructor <;> omega))
  | ((with_reducible refine' k_fdiv ?hv ?_); case hv => constructor <;> omega)
  | ((with_reducible refine' k_mod ?hv ?_); case hv => omega)
  | with_reducible refine k_lt ?_
  | with_reducible refine k_le ?_
  | with_reducible refine k_gt ?_
  | with_reducible refine k_ge ?_
  | with_reducible refine k_eqI ?_
  | with_reducible refine k_eqT ?_
  | with_reducible refine k_neI ?_
  | with_reducible refine k_isN_int ?_
  | with_reducible refine k_isN_ref ?_
  | with_reducible refine k_isN_non ?_
  | with_reducible refine k_notN_int ?_
  | with_reducible refine k_notN_ref ?_
  | with_reducible refine k_notN_non ?_
  | with_reducible refine k_test ?_
  | with_reducible refine k_B ?_
  | with_reducible refine k_bx ?_
  | with_reducible refine k_not ?_
  | with_reducible refine k_notV ?_
  | with_reducible refine k_and ?_
  | with_reducible refine k_or ?_
  | with_reducible refine k_andV ?_
  | with_reducible refine k_orV ?_
  | with_reducible refine k_if ?_
  | with_reducible refine k_chain ?_
  | with_reducible refine iteT ?_
  | with_reducible refine iteF ?_
  | with_reducible refine k_nil ?_
  | with_reducible refine k_cons ?_
  | with_reducible refine k_tup ?_
  | with_reducible refine k_lst ?_
  | with_reducible refine k_call ?_
  | with_reducible refine k_meth ?_
  | ((with_reducible refine' k_meth2 ?hv ?_); case hv => walk_at "kn")
  | with_reducible refine k_make ?_
  | with_reducible refine k_cb ?_
  | with_reducible refine k_min2 ?_
  | with_reducible refine k_max2 ?_
  | with_reducible refine k_int1 ?_
  | with_reducible refine k_int1b ?_
  | with_reducible refine k_abs1 ?_
  | ((with_reducible refine' k_gtup ?hv ?hw ?_); (case hv => walk_at "kn"); (case hw => rfl))
  | with_reducible refine k_gcons ?_
  | with_reducible refine k_gnil ?_
  | with_reducible refine k_isi_ii ?_
  | with_reducible refine k_isi_ib ?_
  | with_reducible refine k_isi_ss ?_
  | ((with_reducible refine' k_isi_tt ?hv ?_); case hv => walk_at "kn")
  | with_reducible refine iteNT ?_
  | with_reducible refine iteNF ?_
  | with_reducible refine k_cval ?_
  | ((with_reducible refine' k_cval2 ?hv ?_); case hv => exact kn_most (by assumption))
  | with_reducible refine k_lc ?_
  | with_reducible refine k_iT ?_
  | ((with_reducible refine' k_iT2 ?hv ?_); case hv => walk_at "kn")
  | with_reducible refine k_iL ?_
  | ((with_reducible refine' k_iL2 ?hv ?_); case hv => walk_at "kn")
  | with_reducible refine k_i1 ?_
  | ((with_reducible refine' k_i1a ?hv ?_); case hv => constructor <;> omega)
  | with_reducible refine k_i2 ?_
  | ((with_reducible refine' k_i2a ?hv ?_); case hv => refine ⟨?_, ?_, ?_, ?_⟩ <;> omega)
  | with_reducible refine k_iZ ?_
  | ((with_reducible refine' k_iZa ?hv ?hw ?_); (case hv => walk_at "kn"); (case hw => walk_at "kn"))
  | with_reducible refine k_iN ?_
  | ((with_reducible refine' k_lenT ?hv ?_); case hv => walk_at "kn")
  | ((with_reducible refine' k_lenL ?hv ?_); case hv => walk_at "kn")
  | ((with_reducible refine' k_ixT ?hv ?hw ?_); (case hv => walk_at "kn"); (case hw => rfl))
  | ((with_reducible refine' k_tupL ?hv ?_); (case hv => walk_at "kn"); (refine' fun _ _ _ _ _ => ?_))
  | ((with_reducible refine' k_tupT ?hv ?_); (case hv => walk_at "kn"))
  | ((with_reducible refine' k_new ?hv ?_); (case hv => (simp only [List.length_cons, List.length_nil]; exact sze _ (by omega))); (refine' fun _ _ _ _ _ => ?_))
  | ((with_reducible refine' k_isiW ?hT ?hv ?_); (case hT => assumption); (case hv => walk_at "kn"))
  | ((with_reducible refine' k_isiT ?hT ?hv ?_); (case hT => assumption); (case hv => walk_at "kn"))
  | ((with_reducible refine' k_isiC ?hT ?hv ?_); (case hT => assumption); (case hv => walk_at "kn"))
  | ((with_reducible refine' k_isiLT ?hv ?hw ?_); (case hv => walk_at "kn"); (case hw => walk_at "kn"))
  | ((with_reducible refine' k_isN_TO ?hv ?_); (case hv => walk_at "kn"))
  | ((with_reducible refine' k_notN_TO ?hv ?_); (case hv => walk_at "kn"))
  | ((with_reducible refine' k_notInDeeds ?hv ?_); (case hv => walk_at "kn"))
  | with_reducible refine k_eqPut ?_
  | ((refine' k_eqB .inn ?hv ?hw ?hx ?_); (case hv => walk_at "kn"); (case hw => walk_at "kn"); (case hx => rfl))
  | ((refine' k_eqB .lf ?hv ?hw ?hx ?_); (case hv => walk_at "kn"); (case hw => walk_at "kn"); (case hx => rfl))
  | ((refine' k_eqB .ls ?hv ?hw ?hx ?_); (case hv => walk_at "kn"); (case hw => walk_at "kn"); (case hx => rfl))
  | ((refine' k_eqB .ff ?hv ?hw ?hx ?_); (case hv => walk_at "kn"); (case hw => walk_at "kn"); (case hx => rfl))
  | ((refine' k_eqB .fs ?hv ?hw ?hx ?_); (case hv => walk_at "kn"); (case hw => walk_at "kn"); (case hx => rfl))
  | ((refine' k_eqB .tf ?hv ?hw ?hx ?_); (case hv => walk_at "kn"); (case hw => walk_at "kn"); (case hx => rfl))
  | ((with_reducible refine' k_yes ?hv ?_); (case hv => walk_at "ar"))
  | ((with_reducible refine' k_no ?hv ?_); (case hv => walk_at "ar"))
  | ((with_reducible refine' k_nyes ?hv ?_); (case hv => walk_at "ar"))
  | ((with_reducible refine' k_nno ?hv ?_); (case hv => walk_at "ar"))
  | with_reducible refine k_sfld ?_
  | ((with_reducible refine' k_ixL ?hv ?hw ?_); (case hv => walk_at "kn"); (case hw => rfl))
  | ((with_reducible refine' k_sumTu _ ?hv ?_); (case hv => walk_at "kn"))
  | ((with_reducible refine' u_is_integer  ?_); (refine' fun _ _ => ?_))
  | ((with_reducible refine' u_over ?ha ?_); (case ha => constructor <;> omega); (refine' fun _ _ => ?_))
  | ((with_reducible refine' u_is_within ?ha ?_); (case ha => constructor <;> omega); (refine' fun _ _ => ?_))
  | ((with_reducible refine' u_need_plus ?ha ?_); (case ha => constructor <;> omega); (refine' fun _ _ => ?_))
  | ((with_reducible refine' u_need_weight ?ha ?_); (case ha => constructor <;> omega); (refine' fun _ _ => ?_))
  | ((with_reducible refine' u_is_times ?ha ?hb ?_); (case ha => walk_at "kn"); (case hb => refine ⟨⟨?_, ?_⟩, ?_, ?_⟩ <;> omega); (refine' fun _ _ => ?_))
  | ((with_reducible refine' u_beside ?ha ?_); (case ha => walk_at "kn"); (refine' fun _ _ => ?_))
  | ((with_reducible refine' u_greatest ?ha ?hb ?_); (case ha => walk_at "kn"); (case hb => constructor <;> omega); (refine' fun _ _ => ?_))
  | ((with_reducible refine' u_need_weight_rule ?ha ?_); (case ha => walk_at "kn"); (refine' fun _ _ => ?_))
  | ((with_reducible refine' u_need_deed  ?_); (refine' fun _ _ => ?_))
  | ((with_reducible refine' u_has_three ?ha ?_); (case ha => walk_at "kn"); (refine' fun _ _ => ?_))
  | ((with_reducible refine' u_scaled ?ha ?hb ?_); (case ha => walk_at "kn"); (case hb => refine ⟨⟨?_, ?_⟩, ?_⟩ <;> (walk_at "ln")); (refine' fun _ _ _ _ => ?_))
  | ((with_reducible refine' u_added ?ha ?hb ?hc ?_); (case ha => walk_at "kn"); (case hb => walk_at "kn"); (case hc => constructor <;> (walk_at "ln")); (refine' fun _ _ _ _ => ?_))
  | ((with_reducible refine' u_amount ?ha ?hb ?hc ?_); (case ha => walk_at "kn"); (case hb => walk_at "kn"); (case hc => assumption); (refine' fun _ _ => ?_))
  | ((with_reducible refine' u_mk_Test ?ha ?hb ?_); (case ha => walk_at "kn"); (case hb => assumption); (refine' fun _ _ _ _ => ?_))
  | ((with_reducible refine' k_eq1st  ?_))
  | ((with_reducible refine' u_heavy_form ?ha ?_); (case ha => walk_at "kn"); (refine' fun _ _ _ _ => ?_))
  | ((with_reducible refine' u_sides ?ha ?hb ?_); (case ha => walk_at "kn"); (case hb => assumption); (refine' fun _ _ _ _ _ _ _ _ => ?_))
  | ((with_reducible refine' u_fair_tests ?ha ?hb ?hc ?hd ?_); (case ha => walk_at "kn"); (case hb => walk_at "kn"); (case hc => walk_at "kn"); (case hd => assumption); (refine' fun _ _ _ _ _ _ => ?_))
  | ((with_reducible refine' u_unfair_test ?ha ?hb ?hc ?hd ?_); (case ha => walk_at "kn"); (case hb => walk_at "kn"); (case hc => walk_at "kn"); (case hd => assumption); (refine' fun _ _ _ _ => ?_)))
local macro_rules | `(tactic| walk_at "go") => `(tactic| repeat (walk_at "st"))
local macro_rules | `(tactic| walk_at "run") => `(tactic| (dsimp only [cxK]; walk_at "go"))

section
variable {P : Program} {w : World} {K : PySem.W.Frag} {mg : Str → Option Value} {base : Heap}
local macro_rules | `(tactic| walk_at "st") => `(tactic| first
  | ((with_reducible refine' k_eq1st  ?_)))
def sp_turn_tests (K : PySem.W.Frag) : Sp := PR (fun i : Addr × Addr × Rl × Bool × Bool => [.ref i.1, .ref i.2.1, .bl i.2.2.2.2])
  (fun i H => RuleI K H i.1 i.2.2.1 ∧ FormsB K H i.2.1 i.2.2.2.1) fun i _ v H' => ∃ l ts, v = .ref l ∧ H' l = some (.lst ts) ∧ All2 (TL K) (turnT i.2.2.1 i.2.2.2.1 i.2.2.2.2) ts H'
theorem ok_turn_tests (T : TX K mg) : Ok P w K mg base 5 (He.ga K "turn_tests") ["rule", "forms", "is_twice"] (sp_turn_tests K) := by
  obtain ⟨fd, F⟩ := T.F_turn_tests
  obtain ⟨G_added, k_added⟩ := ok_added (P := P) (w := w) (base := base) T
  obtain ⟨_, G_scaled, b_scaled, k_scaled⟩ := ok_scaled (P := P) (w := w) (base := base) T
  obtain ⟨_, G_Test_init, b_Test_init, k_Test_init⟩ := ok_Test_init (P := P) (w := w) (base := base) T
  refine ⟨fd, okN F sc_turn_tests (by first | exact SV.len (fun _ => rfl) | exact PR.len (fun _ => rfl) | exact SJ.len (fun _ => rfl) | exact spEqB_len) (fun cdv A outer s H vs Q E hr h => ?_), F.bindsN (fun _ _ _ _ _ _ us hl => match us, hl with | [_, _, _], _ => rfl), F.kp⟩
  obtain ⟨⟨r, a, R, three, tw⟩, rfl, ⟨hR, h1, h2, ⟨tl, l1, l2⟩, ⟨to, o1, o2⟩, ⟨ti, i1, i2⟩, _⟩, q⟩ := h
  dsimp only at hR l2 o2 i2 q
  have b1 := (bl_outer three).le (show (1 : Int) ≤ 4 by omega)
  have b2 := (bl_inner three).le (show (1 : Int) ≤ 4 by omega)
  have n3 : 1 ≤ (if three = true then 3 else 4 : Nat) ∧ (if three = true then 3 else 4 : Nat) ≤ 5 := by cases three <;> simp
  have c1 := b1.len
  have c2 := b2.len
  refine ⟨_, (pss_cons (ps_if (pt_not (pt_val (pe_callB (call_isi) (by rfl) T.n_isinstance (by decide +kernel) (pa_cons (pv 0) (pa_cons (pe_glob (v := .ref (He.ga K "TurnRule")) (by rfl) T.g_TurnRule rfl) pa_nil))))) (pss_one (ps_ret (pe_lst pa_nil))) pss_nil)
      (pss_cons (ps_asg (pe_fld (pv 0) rfl) (pg_tupK K 2 rfl rfl (pgs_cons (pg_name (i := 4) sc_turn_tests.nd rfl (by first | exact Or.inl rfl | exact Or.inr rfl)) (pgs_cons (pg_name (i := 5) sc_turn_tests.nd rfl (by first | exact Or.inl rfl | exact Or.inr rfl)) pgs_nil)) rfl rfl))
      (pss_cons (ps_set (i := 3) sc_turn_tests.nd rfl (Or.inl rfl) (pe_callR G_added (hr.mono (by decide)) k_added (by rfl) T.g_added pass0 (pa_cons (pe_call G_scaled (hr.mono (by decide)) (by rfl) T.g_scaled k_scaled b_scaled .nil pass0 (pa_cons (pv 4) (pa_cons (pe_fld (pv 1) rfl) pa_nil))) (pa_cons (pe_call G_scaled (hr.mono (by decide)) (by rfl) T.g_scaled k_scaled b_scaled .nil pass0 (pa_cons (pe_un un_neg (pv 5)) (pa_cons (pe_fld (pv 1) rfl) pa_nil))) pa_nil))))
      (pss_one (ps_ret (pe_lst (pa_cons (pe_ifExp (pt_val (pv 2)) (pe_make T.mk_Test G_Test_init (hr.mono (by decide)) (by rfl) T.g_Test b_Test_init .nil pass0 (pa_cons (pe_call G_scaled (hr.mono (by decide)) (by rfl) T.g_scaled k_scaled b_scaled .nil pass0 (pa_cons (pe_un un_neg pe_int) (pa_cons (pv 3) pa_nil))) (pa_cons (pe_op op_add (pe_fld (pv 0) rfl) pe_int) pa_nil))) (pe_make T.mk_Test G_Test_init (hr.mono (by decide)) (by rfl) T.g_Test b_Test_init .nil pass0 (pa_cons (pv 3) (pa_cons (pe_un un_neg (pe_fld (pv 0) rfl)) pa_nil)))) pa_nil))))))), ?_⟩
  walk_at "run"
  cases hT : R.turn with
  | none =>
    refine iteNF ?_
    walk_at "go"
    refine q _ _ ?_ ⟨_, _, rfl, by assumption, ?_⟩
    · walk_at "ex"
    · simp only [turnT, hT]
      exact All2.nil
  | some tt =>
    obtain ⟨t, s, e⟩ := tt
    obtain ⟨⟨tp, r1, r2⟩, r3⟩ := hR.tn t s e hT
    obtain ⟨g1, g2, g3, g4, g5, g6⟩ := hR.ok.tn t s e hT
    have t1 := pq_test (a := t) (b := -s) n3 b1 b2 (by omega) (by omega)
    have t2 : (1 ≤ (scaleF (-1) (addF (scaleF t (outerP three)) (scaleF (-s) (innerP three)))).length ∧ (scaleF (-1) (addF (scaleF t (outerP three)) (scaleF (-s) (innerP three)))).length ≤ 5) ∧ ∀ p ∈ scaleF (-1) (addF (scaleF t (outerP three)) (scaleF (-s) (innerP three))), -100000 < p ∧ p < 100000 :=
      (((b1.scale (M := 10) (by omega) (by omega) (by omega)).add (b2.scale (M := 10) (by omega) (by omega) (by omega))).scale (k := -1) (M := 1) (by omega) (by omega) (by omega)).test n3 (by omega)
    refine iteNT ?_
    walk_at "go"
    cases tw with
    | true =>
      refine iteT ?_
      walk_at "go"
      refine q _ _ ?_ ⟨_, _, rfl, by assumption, ?_⟩
      · walk_at "ex"
      · simp only [turnT, hT, if_true]
        exact .mk ⟨_, rfl, by walk_at "kn"⟩ .nil
    | false =>
      refine iteF ?_
      walk_at "go"
      refine q _ _ ?_ ⟨_, _, rfl, by assumption, ?_⟩
      · walk_at "ex"
      · simp only [turnT, hT, Bool.false_eq_true, if_false]
        exact .mk ⟨_, rfl, by walk_at "kn"⟩ .nil
theorem u_turn_tests {r a : Addr} {R : Rl} {three tw : Bool} {H : Hp} {Q : VK} {E : XK} (hR : RuleI K H r R) (h1 : FormsB K H a three)
    (q : ∀ l ts H', Ex H H' → H' l = some (.lst ts) → All2 (TL K) (turnT R three tw) ts H' → Q (.ref l) H') : sp_turn_tests K [.ref r, .ref a, .bl tw] H Q E :=
  ⟨(r, a, R, three, tw), rfl, ⟨hR, h1⟩, fun v H' e ⟨l, ts, ev, h, h'⟩ => ev ▸ q l ts H' e h h'⟩
local macro_rules | `(tactic| walk_at "st") => `(tactic| first
  | ((with_reducible refine' u_turn_tests ?ha ?hb ?_); (case ha => walk_at "kn"); (case hb => walk_at "kn"); (refine' fun _ _ _ _ _ _ => ?_)))
def sp_break_test (K : PySem.W.Frag) : Sp := PR (fun i : Addr × Addr × Addr × Rl × Bool × Bool × Br => [.ref i.1, .ref i.2.1, .bl i.2.2.2.2.2.1, .ref i.2.2.1])
  (fun i H => RuleI K H i.1 i.2.2.2.1 ∧ FormsB K H i.2.1 i.2.2.2.2.1 ∧ SqT K H i.2.2.1 i.2.2.2.2.2.2.vs ∧ (i.2.2.2.2.2.1 = true → i.2.2.2.2.2.2 ≠ .inn → i.2.2.2.2.1 = false) ∧ (i.2.2.2.2.2.1 = false → i.2.2.2.2.2.2 ≠ .ff ∧ i.2.2.2.2.2.2 ≠ .fs))
  fun i _ v H' => TL K (breakT i.2.2.2.1 i.2.2.2.2.1 i.2.2.2.2.2.1 i.2.2.2.2.2.2) v H'
theorem ok_break_test (T : TX K mg) : Ok P w K mg base 7 (He.ga K "break_test") ["rule", "forms", "is_twice", "told"] (sp_break_test K) := by
  obtain ⟨fd, F⟩ := T.F_break_test
  obtain ⟨_, G_Test_init, b_Test_init, k_Test_init⟩ := ok_Test_init (P := P) (w := w) (base := base) T
  obtain ⟨_, G_scaled, b_scaled, k_scaled⟩ := ok_scaled (P := P) (w := w) (base := base) T
  obtain ⟨_, G_Forms_sides, b_Forms_sides, k_Forms_sides⟩ := ok_Forms_sides (P := P) (w := w) (base := base) T
  obtain ⟨_, G_unfair_test, b_unfair_test, k_unfair_test⟩ := ok_unfair_test (P := P) (w := w) (base := base) T
  refine ⟨fd, okN F sc_break_test (by first | exact SV.len (fun _ => rfl) | exact PR.len (fun _ => rfl) | exact SJ.len (fun _ => rfl) | exact spEqB_len) (fun cdv A outer s H vs Q E hr h => ?_), F.bindsN (fun _ _ _ _ _ _ us hl => match us, hl with | [_, _, _, _], _ => rfl), F.kp⟩
  obtain ⟨⟨r, a, tb, R, three, tw, b⟩, rfl, ⟨hR, hF, hb, hw, hn⟩, q⟩ := h
  dsimp only at hR hF hb hw hn q
  obtain ⟨ti, i1, i2⟩ := hF.inner
  have sd := hF.sd
  have b2 := (bl_inner three).le (show (1 : Int) ≤ 4 by omega)
  have n3 : 1 ≤ (if three = true then 3 else 4 : Nat) ∧ (if three = true then 3 else 4 : Nat) ≤ 5 := by cases three <;> simp
  have c2 := b2.len
  have c3 : (innerP three).length < 1000 := by rw [c2]; omega
  have t0 := (b2.scale (k := -1) (M := 1) (by omega) (by omega) (by omega)).test n3 (by omega)
  refine ⟨_, (pss_cons (ps_if (pt_cmpR (op_eqD (room64 hr)) (pv 3) (pe_glob (v := .ref (He.ga K "INNER")) (by rfl) T.g_INNER rfl) (nomark _)) (pss_one (ps_ret (pe_make T.mk_Test G_Test_init (hr.mono (by decide)) (by rfl) T.g_Test b_Test_init .nil pass0 (pa_cons (pe_call G_scaled (hr.mono (by decide)) (by rfl) T.g_scaled k_scaled b_scaled .nil pass0 (pa_cons (pe_un un_neg pe_int) (pa_cons (pe_fld (pv 1) rfl) pa_nil))) (pa_cons (pe_un un_neg pe_int) pa_nil))))) pss_nil)
      (pss_cons (ps_asg (pe_meth (pv 1) T.c_Forms T.m_Forms_sides G_Forms_sides (hr.mono (by decide)) b_Forms_sides .nil pass0 (pa_cons (pv 2) (pa_cons (pe_ix ix_tup (pv 3) pe_int (fun _ _ => rfl)) pa_nil))) (pg_tupK K 2 rfl rfl (pgs_cons (pg_name (i := 4) sc_break_test.nd rfl (by first | exact Or.inl rfl | exact Or.inr rfl)) (pgs_cons (pg_name (i := 5) sc_break_test.nd rfl (by first | exact Or.inl rfl | exact Or.inr rfl)) pgs_nil)) rfl rfl))
      (pss_one (ps_ret (pe_ifExp (pt_cmpR op_eq (pe_ix ix_tup (pv 3) pe_int (fun _ _ => rfl)) pe_str (nomark _)) (pe_call G_unfair_test (hr.mono (by decide)) (by rfl) T.g_unfair_test k_unfair_test b_unfair_test .nil pass0 (pa_cons (pv 0) (pa_cons (pv 4) (pa_cons (pv 5) pa_nil)))) (pe_call G_unfair_test (hr.mono (by decide)) (by rfl) T.g_unfair_test k_unfair_test b_unfair_test .nil pass0 (pa_cons (pv 0) (pa_cons (pv 5) (pa_cons (pv 4) pa_nil))))))))), ?_⟩
  walk_at "run"
  refine k_dec (fun e => ?_) (fun e => ?_)
  · subst e
    walk_at "go"
    refine q _ _ ?_ ⟨_, rfl, ?_⟩
    · walk_at "ex"
    · show TestAt K _ _ (scaleF (-1) (innerP three)) (-1)
      walk_at "kn"
  · have hc : b ≠ .inn ∧ (tw = true → three = false) ∧ (tw = false → b ≠ .ff ∧ b ≠ .fs) := ⟨e, fun h => hw h e, hn⟩
    obtain ⟨s1, s2⟩ := bl_sides three tw b hc.2.1
    have s1 := s1.le (show (2 : Int) ≤ 4 by omega)
    have s2 := s2.le (show (2 : Int) ≤ 4 by omega)
    have u1 := (⟨n3, s1, s2⟩ : (1 ≤ (if three = true then 3 else 4 : Nat) ∧ (if three = true then 3 else 4 : Nat) ≤ 5) ∧ _ ∧ _)
    have u2 := (⟨n3, s2, s1⟩ : (1 ≤ (if three = true then 3 else 4 : Nat) ∧ (if three = true then 3 else 4 : Nat) ≤ 5) ∧ _ ∧ _)
    walk_at "go"
    cases f : fst? b with
    | true =>
      refine iteT ?_
      walk_at "go"
      refine q _ _ ?_ ⟨_, rfl, ?_⟩
      · walk_at "ex"
      · simp only [breakT, if_neg e, f, if_true]
        assumption
    | false =>
      refine iteF ?_
      walk_at "go"
      refine q _ _ ?_ ⟨_, rfl, ?_⟩
      · walk_at "ex"
      · simp only [breakT, if_neg e, f, Bool.false_eq_true, if_false]
        assumption
theorem u_break_test {r a tb : Addr} {R : Rl} {three tw : Bool} {b : Br} {H : Hp} {Q : VK} {E : XK} (hR : RuleI K H r R) (h1 : FormsB K H a three) (h2 : SqT K H tb b.vs) (hc : (tw = true → b ≠ .inn → three = false) ∧ (tw = false → b ≠ .ff ∧ b ≠ .fs))
    (q : ∀ t H', Ex H H' → TL K (breakT R three tw b) (.ref t) H' → Q (.ref t) H') : sp_break_test K [.ref r, .ref a, .bl tw, .ref tb] H Q E :=
  ⟨(r, a, tb, R, three, tw, b), rfl, ⟨hR, h1, h2, hc.1, hc.2⟩, fun v H' e h => by
    obtain ⟨t, ev, _⟩ := id h
    subst ev
    exact q t H' e h⟩
local macro_rules | `(tactic| walk_at "st") => `(tactic| first
  | ((with_reducible refine' u_break_test ?ha ?hb ?hc ?hd ?_); (case ha => walk_at "kn"); (case hb => walk_at "kn"); (case hc => walk_at "kn"); (case hd => assumption); (refine' fun _ _ _ _ => ?_)))

end
end M
namespace M
open PySem PySem.Spec PyProof.Rows L2 Evl
local macro_rules | `(tactic| walk_at "ar") => `(tactic| first | exact rfl | omega | (simp only [List.length_map, List.length_cons, List.length_nil] at *; omega) | decide)
local macro_rules | `(tactic| walk_at "ex") => `(tactic| first | with_reducible assumption | exact Ex.refl _ | (refine' Ex.trans ?a ?b; (case b => with_reducible assumption); (case a => walk_at "ex")) | (refine' Ex.mu2 ?a ?n ?b; (case b => with_reducible assumption); (case n => with_reducible assumption); (case a => walk_at "ex")))
local macro_rules | `(tactic| walk_at "exn") => `(tactic| first | with_reducible assumption | exact ExN.refl _ | (refine' ExN.trans ?a (ExN.of ?b); (case b => with_reducible assumption); (case a => walk_at "exn")) | (refine' ExN.trans ?a ?b; (case b => with_reducible assumption); (case a => walk_at "exn")))
local macro_rules | `(tactic| walk_at "ln") => `(tactic| first | exact rfl | omega | (simp only [scaleF, addF, List.length_map, List.length_zip, List.length_cons, List.length_nil] <;> omega))
local macro_rules | `(tactic| walk_at "kn") => `(tactic| first
  | with_reducible assumption
  | ((with_reducible refine' Fld.mono ?e ?m); (case e => with_reducible assumption); (case m => walk_at "kn"))
  | ((with_reducible refine' Ins.mono ?e ?m); (case e => with_reducible assumption); (case m => walk_at "kn"))
  | ((with_reducible refine' SqT.of ?m); (case m => walk_at "kn"))
  | ((with_reducible refine' SqL.of ?m); (case m => walk_at "kn"))
  | with_reducible exact kn_DEEDS (by assumption)
  | with_reducible exact kn_INNER (by assumption)
  | with_reducible exact kn_ONCE (by assumption)
  | with_reducible exact kn_TWICE (by assumption)
  | ((with_reducible refine' RB.mono ?e ?m); (case e => with_reducible assumption); (case m => walk_at "kn"))
  | ((with_reducible refine' RuleI.mono ?e ?m); (case e => with_reducible assumption); (case m => walk_at "kn"))
  | ((with_reducible refine' TestAt.mono ?e ?m); (case e => with_reducible assumption); (case m => walk_at "kn"))
  | ((with_reducible refine' TO_mono ?e ?m); (case e => with_reducible assumption); (case m => walk_at "kn"))
  | ((with_reducible refine' CaseAt.mono ?e ?m); (case e => with_reducible assumption); (case m => walk_at "kn"))
  | ((with_reducible refine' LT.fair ?e ?m); (case e => with_reducible assumption); (case m => with_reducible assumption))
  | ((with_reducible refine' LT.turn ?e ?m); (case e => with_reducible assumption); (case m => with_reducible assumption))
  | ((with_reducible refine' FormsB.mono ?e ?m); (case e => with_reducible assumption); (case m => walk_at "kn"))
  | ((with_reducible refine' tl_mono ?e ?m); (case e => with_reducible assumption); (case m => walk_at "kn"))
  | ((with_reducible refine' ExN.t ?e ?m); (case e => with_reducible assumption); (case m => walk_at "kn"))
  | ((with_reducible refine' ExN.fld ?e ?m); (case e => with_reducible assumption); (case m => walk_at "kn"))
  | ((with_reducible refine' ExN.ins ?e ?m); (case e => with_reducible assumption); (case m => walk_at "kn"))
  | ((with_reducible refine' RuleI.monoN ?e ?m); (case e => with_reducible assumption); (case m => walk_at "kn"))
  | ((with_reducible refine' TestAt.monoN ?e ?m); (case e => with_reducible assumption); (case m => walk_at "kn"))
  | ((with_reducible refine' CaseAt.monoN ?e ?m); (case e => with_reducible assumption); (case m => walk_at "kn"))
  | ((with_reducible refine' FormsB.monoN ?e ?m); (case e => with_reducible assumption); (case m => walk_at "kn"))
  | ((with_reducible refine' tl_monoN ?e ?m); (case e => with_reducible assumption); (case m => walk_at "kn"))
  | ((with_reducible refine' LT.mono ?e ?m); (case e => with_reducible assumption); (case m => walk_at "kn"))
  | ((with_reducible refine' ex_t ?e ?m); (case e => with_reducible assumption); (case m => walk_at "kn"))
  | ((with_reducible refine' ex_l ?e ?m); (case e => with_reducible assumption); (case m => walk_at "kn"))
  | ((with_reducible refine' Ex.at ?e ?m); (case e => with_reducible assumption); (case m => walk_at "kn"))
  | ((with_reducible refine' Mu.t ?e ?n ?m); (case e => with_reducible assumption); (case n => with_reducible assumption); (case m => walk_at "kn"))
  | ((with_reducible refine' Mu.lst ?e ?n ?m); (case e => with_reducible assumption); (case n => with_reducible assumption); (case m => walk_at "kn"))
  | ((with_reducible refine' Mu.fld ?e ?n ?m); (case e => with_reducible assumption); (case n => with_reducible assumption); (case m => walk_at "kn")))
local macro_rules | `(tactic| walk_at "st") => `(tactic| first
  | with_reducible refine k_seq ?_
  | with_reducible refine k_asg ?_
  | with_reducible refine k_ret ?_
  | with_reducible refine k_drop ?_
  | with_reducible refine k_ifS ?_
  | with_reducible refine k_name ?_
  | with_reducible refine k_next ?_
  | ((with_reducible refine' k_var ?hv ?_); case hv => exact rfl)
  | with_reducible refine k_c ?_
  | with_reducible refine k_fld ?_
  | ((with_reducible refine' k_fld2 ?hv ?_); case hv => walk_at "kn")
  | with_reducible refine k_op ?_
  | with_reducible refine k_un ?_
  | with_reducible refine k_add ?_
  | with_reducible refine k_sub ?_
  | with_reducible refine k_neg ?_
  | ((with_reducible refine' k_mul ?hv ?_); case hv => first | (left; constructor <;> omega) | (right; constructor <;> omega))
  | ((with_reducible refine' k_fdiv ?hv ?_); case hv => constructor <;> omega)
  | ((with_reducible refine' k_mod ?hv ?_); case hv => omega)
  | with_reducible refine k_lt ?_
  | with_reducible refine k_le ?_
  | with_reducible refine k_gt ?_
  | with_reducible refine k_ge ?_
  | with_reducible refine k_eqI ?_
  | with_reducible refine k_eqT ?_
  | with_reducible refine k_neI ?_
  | with_reducible refine k_isN_int ?_
  | with_reducible refine k_isN_ref ?_
  | with_reducible refine k_isN_non ?_
  | with_reducible refine k_notN_int ?_
  | with_reducible refine k_notN_ref ?_
  | with_reducible refine k_notN_non ?_
  | with_reducible refine k_test ?_
  | with_reducible refine k_B ?_
  | with_reducible refine k_bx ?_
  | with_reducible refine k_not ?_
  | with_reducible refine k_notV ?_
  | with_reducible refine k_and ?_
  | with_reducible refine k_or ?_
  | with_reducible refine k_andV ?_
  | with_reducible refine k_orV ?_
  | with_reducible refine k_if ?_
  | with_reducible refine k_chain ?_
  | with_reducible refine iteT ?_
  | with_reducible refine iteF ?_
  | with_reducible refine k_nil ?_
  | with_reducible refine k_cons ?_
  | with_reducible refine k_tup ?_
  | with_reducible refine k_lst ?_
  | with_reducible refine k_call ?_
  | with_reducible refine k_meth ?_
  | ((with_reducible refine' k_meth2 ?hv ?_); case hv => walk_at "kn")
  | with_reducible refine k_make ?_
  | with_reducible refine k_cb ?_
  | with_reducible refine k_min2 ?_
  | with_reducible refine k_max2 ?_
  | with_reducible refine k_int1 ?_
  | with_reducible refine k_int1b ?_
  | with_reducible refine k_abs1 ?_
  | ((with_reducible refine' k_gtup ?hv ?hw ?_); (case hv => walk_at "kn"); (case hw => rfl))
  | with_reducible refine k_gcons ?_
  | with_reducible refine k_gnil ?_
  | with_reducible refine k_isi_ii ?_
  | with_reducible refine k_isi_ib ?_
  | with_reducible refine k_isi_ss ?_
  | ((with_reducible refine' k_isi_tt ?hv ?_); case hv => walk_at "kn")
  | with_reducible refine iteNT ?_
  | with_reducible refine iteNF ?_
  | with_reducible refine k_cval ?_
  | ((with_reducible refine' k_cval2 ?hv ?_); case hv => exact kn_most (by assumption))
  | with_reducible refine k_lc ?_
  | with_reducible refine k_iT ?_
  | ((with_reducible refine' k_iT2 ?hv ?_); case hv => walk_at "kn")
  | with_reducible refine k_iL ?_
  | ((with_reducible refine' k_iL2 ?hv ?_); case hv => walk_at "kn")
  | with_reducible refine k_i1 ?_
  | ((with_reducible refine' k_i1a ?hv ?_); case hv => constructor <;> omega)
  | with_reducible refine k_i2 ?_
  | ((with_reducible refine' k_i2a ?hv ?_); case hv => refine ⟨?_, ?_, ?_, ?_⟩ <;> omega)
  | with_reducible refine k_iZ ?_
  | ((with_reducible refine' k_iZa ?hv ?hw ?_); (case hv => walk_at "kn"); (case hw => walk_at "kn"))
  | with_reducible refine k_iN ?_
  | ((with_reducible refine' k_lenT ?hv ?_); case hv => walk_at "kn")
  | ((with_reducible refine' k_lenL ?hv ?_); case hv => walk_at "kn")
  | ((with_reducible refine' k_ixT ?hv ?hw ?_); (case hv => walk_at "kn"); (case hw => rfl))
  | ((with_reducible refine' k_tupL ?hv ?_); (case hv => walk_at "kn"); (refine' fun _ _ _ _ _ => ?_))
  | ((with_reducible refine' k_tupT ?hv ?_); (case hv => walk_at "kn"))
  | ((with_reducible refine' k_new ?hv ?_); (case hv => (simp only [List.length_cons, List.length_nil]; exact sze _ (by omega))); (refine' fun _ _ _ _ _ => ?_))
  | ((with_reducible refine' k_isiW ?hT ?hv ?_); (case hT => assumption); (case hv => walk_at "kn"))
  | ((with_reducible refine' k_isiT ?hT ?hv ?_); (case hT => assumption); (case hv => walk_at "kn"))
  | ((with_reducible refine' k_isiC ?hT ?hv ?_); (case hT => assumption); (case hv => walk_at "kn"))
  | ((with_reducible refine' k_isiLT ?hv ?hw ?_); (case hv => walk_at "kn"); (case hw => walk_at "kn"))
  | ((with_reducible refine' k_isN_TO ?hv ?_); (case hv => walk_at "kn"))
  | ((with_reducible refine' k_notN_TO ?hv ?_); (case hv => walk_at "kn"))
  | ((with_reducible refine' k_notInDeeds ?hv ?_); (case hv => walk_at "kn"))
  | with_reducible refine k_eqPut ?_
  | ((refine' k_eqB .inn ?hv ?hw ?hx ?_); (case hv => walk_at "kn"); (case hw => walk_at "kn"); (case hx => rfl))
  | ((refine' k_eqB .lf ?hv ?hw ?hx ?_); (case hv => walk_at "kn"); (case hw => walk_at "kn"); (case hx => rfl))
  | ((refine' k_eqB .ls ?hv ?hw ?hx ?_); (case hv => walk_at "kn"); (case hw => walk_at "kn"); (case hx => rfl))
  | ((refine' k_eqB .ff ?hv ?hw ?hx ?_); (case hv => walk_at "kn"); (case hw => walk_at "kn"); (case hx => rfl))
  | ((refine' k_eqB .fs ?hv ?hw ?hx ?_); (case hv => walk_at "kn"); (case hw => walk_at "kn"); (case hx => rfl))
  | ((refine' k_eqB .tf ?hv ?hw ?hx ?_); (case hv => walk_at "kn"); (case hw => walk_at "kn"); (case hx => rfl))
  | ((with_reducible refine' k_yes ?hv ?_); (case hv => walk_at "ar"))
  | ((with_reducible refine' k_no ?hv ?_); (case hv => walk_at "ar"))
  | ((with_reducible refine' k_nyes ?hv ?_); (case hv => walk_at "ar"))
  | ((with_reducible refine' k_nno ?hv ?_); (case hv => walk_at "ar"))
  | with_reducible refine k_sfld ?_
  | ((with_reducible refine' k_ixL ?hv ?hw ?_); (case hv => walk_at "kn"); (case hw => rfl))
  | ((with_reducible refine' k_sumTu _ ?hv ?_); (case hv => walk_at "kn"))
  | ((with_reducible refine' u_is_integer  ?_); (refine' fun _ _ => ?_))
  | ((with_reducible refine' u_over ?ha ?_); (case ha => constructor <;> omega); (refine' fun _ _ => ?_))
  | ((with_reducible refine' u_is_within ?ha ?_); (case ha => constructor <;> omega); (refine' fun _ _ => ?_))
  | ((with_reducible refine' u_need_plus ?ha ?_); (case ha => constructor <;> omega); (refine' fun _ _ => ?_))
  | ((with_reducible refine' u_need_weight ?ha ?_); (case ha => constructor <;> omega); (refine' fun _ _ => ?_))
  | ((with_reducible refine' u_is_times ?ha ?hb ?_); (case ha => walk_at "kn"); (case hb => refine ⟨⟨?_, ?_⟩, ?_, ?_⟩ <;> omega); (refine' fun _ _ => ?_))
  | ((with_reducible refine' u_beside ?ha ?_); (case ha => walk_at "kn"); (refine' fun _ _ => ?_))
  | ((with_reducible refine' u_greatest ?ha ?hb ?_); (case ha => walk_at "kn"); (case hb => constructor <;> omega); (refine' fun _ _ => ?_))
  | ((with_reducible refine' u_need_weight_rule ?ha ?_); (case ha => walk_at "kn"); (refine' fun _ _ => ?_))
  | ((with_reducible refine' u_need_deed  ?_); (refine' fun _ _ => ?_))
  | ((with_reducible refine' u_has_three ?ha ?_); (case ha => walk_at "kn"); (refine' fun _ _ => ?_))
  | ((with_reducible refine' u_scaled ?ha ?hb ?_); (case ha => walk_at "kn"); (case hb => refine ⟨⟨?_, ?_⟩, ?_⟩ <;> (walk_at "ln")); (refine' fun _ _ _ _ => ?_))
  | ((with_reducible refine' u_added ?ha ?hb ?hc ?_); (case ha => walk_at "kn"); (case hb => walk_at "kn"); (case hc => constructor <;> (walk_at "ln")); (refine' fun _ _ _ _ => ?_))
  | ((with_reducible refine' u_amount ?ha ?hb ?hc ?_); (case ha => walk_at "kn"); (case hb => walk_at "kn"); (case hc => assumption); (refine' fun _ _ => ?_))
  | ((with_reducible refine' u_mk_Test ?ha ?hb ?_); (case ha => walk_at "kn"); (case hb => assumption); (refine' fun _ _ _ _ => ?_))
  | ((with_reducible refine' k_eq1st  ?_))
  | ((with_reducible refine' u_heavy_form ?ha ?_); (case ha => walk_at "kn"); (refine' fun _ _ _ _ => ?_))
  | ((with_reducible refine' u_sides ?ha ?hb ?_); (case ha => walk_at "kn"); (case hb => assumption); (refine' fun _ _ _ _ _ _ _ _ => ?_))
  | ((with_reducible refine' u_fair_tests ?ha ?hb ?hc ?hd ?_); (case ha => walk_at "kn"); (case hb => walk_at "kn"); (case hc => walk_at "kn"); (case hd => assumption); (refine' fun _ _ _ _ _ _ => ?_))
  | ((with_reducible refine' u_unfair_test ?ha ?hb ?hc ?hd ?_); (case ha => walk_at "kn"); (case hb => walk_at "kn"); (case hc => walk_at "kn"); (case hd => assumption); (refine' fun _ _ _ _ => ?_))
  | ((with_reducible refine' k_eq1st  ?_))
  | ((with_reducible refine' u_turn_tests ?ha ?hb ?_); (case ha => walk_at "kn"); (case hb => walk_at "kn"); (refine' fun _ _ _ _ _ _ => ?_))
  | ((with_reducible refine' u_break_test ?ha ?hb ?hc ?hd ?_); (case ha => walk_at "kn"); (case hb => walk_at "kn"); (case hc => walk_at "kn"); (case hd => assumption); (refine' fun _ _ _ _ => ?_)))
local macro_rules | `(tactic| walk_at "go") => `(tactic| repeat (walk_at "st"))
local macro_rules | `(tactic| walk_at "run") => `(tactic| (dsimp only [cxK]; walk_at "go"))

section
variable {P : Program} {w : World} {K : PySem.W.Frag} {mg : Str → Option Value} {base : Heap}
local macro_rules | `(tactic| walk_at "st") => `(tactic| first
  | ((with_reducible refine' k_ifv ?ha ?hb ?_); (case ha => exact rfl); (case hb => exact rfl)))
local macro_rules | `(tactic| walk_at "st") => `(tactic| first
  | ((with_reducible refine' k_apT ?ha ?hb ?hc ?_); (case ha => walk_at "kn"); (case hb => omega); (case hc => first | with_reducible assumption | (with_reducible exact TL.mk2 (by assumption)) | (with_reducible exact TL.mk (by assumption))); (refine' fun _ _ _ _ => ?_)))
local macro_rules | `(tactic| walk_at "st") => `(tactic| first
  | ((with_reducible refine' k_exT ?ha ?hb ?hc ?_); (case ha => walk_at "kn"); (case hb => walk_at "kn"); (case hc => omega); (refine' fun _ _ _ _ => ?_)))
local macro_rules | `(tactic| walk_at "st") => `(tactic| first
  | ((with_reducible refine' k_bm  ?_)))
local macro_rules | `(tactic| walk_at "st") => `(tactic| first
  | ((with_reducible refine' k_bmL ?ha ?_); (case ha => walk_at "kn")))
local macro_rules | `(tactic| walk_at "st") => `(tactic| first
  | ((with_reducible refine' k_tupLT ?ha ?_); (case ha => walk_at "kn"); (refine' fun _ _ _ _ _ _ => ?_)))
local macro_rules | `(tactic| walk_at "tin") => `(tactic| (refine' All2.cast ?e ?m; (case m => assumption); (case e => simp [testsT, has3, dS_put])))
local macro_rules | `(tactic| walk_at "tin2") => `(tactic| (refine' All2.cast ?e ?m; (case m => assumption); (case e => simp [testsT, dS_put, (by assumption : has3 _ = false)])))
theorem u_mk_Forms {F : Addr → Hp → Prop} {H : Hp} {E : XK} {a : Addr} {pt : Bool} {o w' : Option Br} (h1 : CaseAt K H a pt o w') (k : ∀ x H', Ex H H' → FormsAt K H' x (has3 w') → F x H') :
    ∀ x dx, H x = none → H dx = none → dx ≠ x → sp_Forms_init K (.ref x :: [.ref a]) (upd (upd H dx (.own x)) x (.ins (He.ga K "Forms") dx [])) (fun v H2 => v = .non ∧ F x H2) E :=
  SJ.make (a, pt, o, w') (fun H' e => h1.mono e) fun x H' e _ t => k x H' e t
def sp_tests_in (K : PySem.W.Frag) : Sp := PR (fun i : Addr × Addr × Rl × Bool × Option Br × Option Br => [.ref i.1, .ref i.2.1])
  (fun i H => RuleI K H i.1 i.2.2.1 ∧ CaseAt K H i.2.1 i.2.2.2.1 i.2.2.2.2.1 i.2.2.2.2.2 ∧ (∀ b, i.2.2.2.2.1 = some b → b ≠ .ff ∧ b ≠ .fs)) fun i _ v H' => ∃ l ts, v = .ref l ∧ H' l = some (.tup ts) ∧ All2 (TL K) (testsT i.2.2.1 i.2.2.2.1 i.2.2.2.2.1 i.2.2.2.2.2) ts H'
theorem ok_tests_in (T : TX K mg) : Ok P w K mg base 9 (He.ga K "tests_in") ["rule", "case"] (sp_tests_in K) := by
  obtain ⟨fd, F⟩ := T.F_tests_in
  obtain ⟨_, G_Forms_init, b_Forms_init, k_Forms_init⟩ := ok_Forms_init (P := P) (w := w) (base := base) T
  obtain ⟨_, G_Test_init, b_Test_init, k_Test_init⟩ := ok_Test_init (P := P) (w := w) (base := base) T
  obtain ⟨_, G_unfair_test, b_unfair_test, k_unfair_test⟩ := ok_unfair_test (P := P) (w := w) (base := base) T
  obtain ⟨_, G_Forms_heavy_form, b_Forms_heavy_form, k_Forms_heavy_form⟩ := ok_Forms_heavy_form (P := P) (w := w) (base := base) T
  obtain ⟨G_added, k_added⟩ := ok_added (P := P) (w := w) (base := base) T
  obtain ⟨_, G_scaled, b_scaled, k_scaled⟩ := ok_scaled (P := P) (w := w) (base := base) T
  obtain ⟨_, G_fair_tests, b_fair_tests, k_fair_tests⟩ := ok_fair_tests (P := P) (w := w) (base := base) T
  obtain ⟨_, G_turn_tests, b_turn_tests, k_turn_tests⟩ := ok_turn_tests (P := P) (w := w) (base := base) T
  obtain ⟨_, G_break_test, b_break_test, k_break_test⟩ := ok_break_test (P := P) (w := w) (base := base) T
  refine ⟨fd, okN F sc_tests_in (by first | exact SV.len (fun _ => rfl) | exact PR.len (fun _ => rfl) | exact SJ.len (fun _ => rfl) | exact spEqB_len) (fun cdv A outer s H vs Q E hr h => ?_), F.bindsN (fun _ _ _ _ _ _ us hl => match us, hl with | [_, _], _ => rfl), F.kp⟩
  obtain ⟨⟨r, a, R, pt, o, w'⟩, rfl, ⟨hR, hC, ho⟩, q⟩ := h
  dsimp only at hR hC ho q
  obtain ⟨⟨tp, r1, r2⟩, r3⟩ := hR.rb
  have q1 := hR.ok.q1
  have qp := hR.ok.qp
  have p6 := hR.ok.p6
  have cd := hC.d
  obtain ⟨vo, co, cot⟩ := hC.o
  obtain ⟨vw, cw, cwt⟩ := hC.w
  refine ⟨_, (pss_cons (ps_asg (pe_fld (pv 0) rfl) (pg_tupK K 2 rfl rfl (pgs_cons (pg_name (i := 5) sc_tests_in.nd rfl (by first | exact Or.inl rfl | exact Or.inr rfl)) (pgs_cons (pg_name (i := 6) sc_tests_in.nd rfl (by first | exact Or.inl rfl | exact Or.inr rfl)) pgs_nil)) rfl rfl))
      (pss_cons (ps_set (i := 2) sc_tests_in.nd rfl (Or.inl rfl) (pe_make T.mk_Forms G_Forms_init (hr.mono (by decide)) (by rfl) T.g_Forms b_Forms_init .nil pass0 (pa_cons (pv 1) pa_nil)))
      (pss_cons (ps_setLc (i := 3) (own := [("unit", 7)]) (by rfl) sc_tests_in.nd rfl rfl (sw_true rfl rfl rfl (by decide +kernel)) (pi_list (pe_fld (pv 2) rfl)) (blkOk_by (by rfl)) (fun _ _ _ _ _ => pg_name (i := 7) sc_tests_in.nd rfl (by first | exact Or.inl rfl | exact Or.inr rfl)) (fun _ _ _ _ _ => pts_nil) (fun _ _ _ _ _ => (pe_make T.mk_Test G_Test_init (hr.mono (by decide)) (by rfl) T.g_Test b_Test_init .nil pass0 (pa_cons (pv 7) (pa_cons pe_int pa_nil)))))
      (pss_cons (ps_expr (pe_bm PySem.F.plainAttrs_list PySem.F.slot_list_append PySem.F.type_list_append mt_append (pv 3) (pa_cons (pe_call G_unfair_test (hr.mono (by decide)) (by rfl) T.g_unfair_test k_unfair_test b_unfair_test .nil pass0 (pa_cons (pv 0) (pa_cons (pe_meth0 (pv 2) T.c_Forms T.m_Forms_heavy_form G_Forms_heavy_form (hr.mono (by decide)) b_Forms_heavy_form .nil pass0) (pa_cons (pe_fld (pv 2) rfl) pa_nil)))) pa_nil)))
      (pss_cons (ps_set (i := 4) sc_tests_in.nd rfl (Or.inl rfl) (pe_callR G_added (hr.mono (by decide)) k_added (by rfl) T.g_added pass0 (pa_cons (pe_call G_scaled (hr.mono (by decide)) (by rfl) T.g_scaled k_scaled b_scaled .nil pass0 (pa_cons (pv 5) (pa_cons (pe_fld (pv 2) rfl) pa_nil))) (pa_cons (pe_call G_scaled (hr.mono (by decide)) (by rfl) T.g_scaled k_scaled b_scaled .nil pass0 (pa_cons (pe_un un_neg (pv 6)) (pa_cons (pe_meth0 (pv 2) T.c_Forms T.m_Forms_heavy_form G_Forms_heavy_form (hr.mono (by decide)) b_Forms_heavy_form .nil pass0) pa_nil))) pa_nil))))
      (pss_cons (ps_expr (pe_bm PySem.F.plainAttrs_list PySem.F.slot_list_append PySem.F.type_list_append mt_append (pv 3) (pa_cons (pe_make T.mk_Test G_Test_init (hr.mono (by decide)) (by rfl) T.g_Test b_Test_init .nil pass0 (pa_cons (pv 4) (pa_cons (pe_op op_sub (pe_un un_neg (pe_fld (pv 0) rfl)) (pe_ifExp (pt_cmpR op_eq (pe_fld (pv 1) rfl) pe_str (nomark _)) (pv 6) (pv 5))) pa_nil))) pa_nil)))
      (pss_cons (ps_expr (pe_bm PySem.F.plainAttrs_list PySem.F.slot_list_extend PySem.F.type_list_extend mt_extend (pv 3) (pa_cons (pe_call G_fair_tests (hr.mono (by decide)) (by rfl) T.g_fair_tests k_fair_tests b_fair_tests .nil pass0 (pa_cons (pv 0) (pa_cons (pe_fld (pv 2) rfl) (pa_cons (pe_fld (pv 2) rfl) pa_nil)))) pa_nil)))
      (pss_cons (ps_if (pt_cmpR o_notN (pe_fld (pv 2) rfl) pe_non (nomark _)) (pss_one (ps_expr (pe_bm PySem.F.plainAttrs_list PySem.F.slot_list_extend PySem.F.type_list_extend mt_extend (pv 3) (pa_cons (pe_call G_fair_tests (hr.mono (by decide)) (by rfl) T.g_fair_tests k_fair_tests b_fair_tests .nil pass0 (pa_cons (pv 0) (pa_cons (pe_fld (pv 2) rfl) (pa_cons (pe_fld (pv 2) rfl) pa_nil)))) pa_nil)))) pss_nil)
      (pss_cons (ps_expr (pe_bm PySem.F.plainAttrs_list PySem.F.slot_list_extend PySem.F.type_list_extend mt_extend (pv 3) (pa_cons (pe_call G_turn_tests (hr.mono (by decide)) (by rfl) T.g_turn_tests k_turn_tests b_turn_tests .nil pass0 (pa_cons (pv 0) (pa_cons (pv 2) (pa_cons (pe_cmpR o_notN (pe_fld (pv 1) rfl) pe_non (nomark _)) pa_nil)))) pa_nil)))
      (pss_cons (ps_if (pt_cmpR o_notN (pe_fld (pv 1) rfl) pe_non (nomark _)) (pss_one (ps_expr (pe_bm PySem.F.plainAttrs_list PySem.F.slot_list_append PySem.F.type_list_append mt_append (pv 3) (pa_cons (pe_call G_break_test (hr.mono (by decide)) (by rfl) T.g_break_test k_break_test b_break_test .nil pass0 (pa_cons (pv 0) (pa_cons (pv 2) (pa_cons pe_bl (pa_cons (pe_fld (pv 1) rfl) pa_nil))))) pa_nil)))) pss_nil)
      (pss_cons (ps_if (pt_cmpR o_notN (pe_fld (pv 1) rfl) pe_non (nomark _)) (pss_one (ps_expr (pe_bm PySem.F.plainAttrs_list PySem.F.slot_list_append PySem.F.type_list_append mt_append (pv 3) (pa_cons (pe_call G_break_test (hr.mono (by decide)) (by rfl) T.g_break_test k_break_test b_break_test .nil pass0 (pa_cons (pv 0) (pa_cons (pv 2) (pa_cons pe_bl (pa_cons (pe_fld (pv 1) rfl) pa_nil))))) pa_nil)))) pss_nil)
      (pss_one (ps_ret (pe_callTy (c_tupleK K rfl) (by rfl) T.n_tuple (by decide +kernel) (pa_cons (pv 3) pa_nil))))))))))))))), ?_⟩
  walk_at "run"
  refine u_mk_Forms (by walk_at "kn") fun xf Hf ef hF => ?_
  obtain ⟨ul, us, fu, fus, fa⟩ := hF.units
  have hB := hF.b
  walk_at "go"
  refine lcL ((unitsP (has3 w')).zip us) (c := Prod.snd) (R := fun j y H => TL K (j.1, 1) y H) (sz _ (by rw [List.length_zip]; have : (unitsP (has3 w')).length ≤ 4 := (by cases has3 w' <;> simp [unitsP]); omega)) (by rw [zip_snd_all fa.1]; exact fus)
    ⟨fun _ _ _ _ e h => h.mono e, fun j H' Qk hj e q => ?_⟩ fun D H1 ts hD e1 hy a2 => ?_
  · obtain ⟨ua, hu, uS⟩ := fa.zip_mem hj
    rw [hu]
    have ht := units_ok (List.of_mem_zip hj).1
    refine k_name ⟨rfl, ?_⟩
    walk_at "go"
    refine q _ _ ?_ ⟨_, rfl, ?_⟩
    · walk_at "ex"
    · walk_at "kn"
  · have aL := LT.units hy (All2.mapL (a2.unzip fa.1))
    have hn : H D = none := none_of (by walk_at "ex") hD
    have bh := (bl_heavy (has3 w')).le (show (2 : Int) ≤ 4 by omega)
    have bl := (bl_light (has3 w')).le (show (1 : Int) ≤ 4 by omega)
    have bo := (bl_outer (has3 w')).le (show (1 : Int) ≤ 4 by omega)
    have bi := (bl_inner (has3 w')).le (show (1 : Int) ≤ 4 by omega)
    have n3 : 1 ≤ (if has3 w' = true then 3 else 4 : Nat) ∧ (if has3 w' = true then 3 else 4 : Nat) ≤ 5 := by cases has3 w' <;> simp
    have z1 := (⟨n3, bh, bl⟩ : (1 ≤ (if has3 w' = true then 3 else 4 : Nat) ∧ (if has3 w' = true then 3 else 4 : Nat) ≤ 5) ∧ _ ∧ _)
    have z2 := (⟨n3, bi, bo⟩ : (1 ≤ (if has3 w' = true then 3 else 4 : Nat) ∧ (if has3 w' = true then 3 else 4 : Nat) ≤ 5) ∧ _ ∧ _)
    have z3 := (⟨by omega, bl_near.le (by omega), bl_far.le (by omega)⟩ : ((1 : Nat) ≤ 4 ∧ (4 : Nat) ≤ 5) ∧ BL 4 4 nearP ∧ BL 4 4 farP)
    have l1 := bl.len
    have l2 := bh.len
    have t1 := pq_test (a := R.p) (b := -R.q) n3 bl bh (by omega) (by omega)
    obtain ⟨tl, fl1, fl2⟩ := hB.light
    obtain ⟨to, fo1, fo2⟩ := hB.outer
    obtain ⟨ti, fi1, fi2⟩ := hB.inner
    have fn := hB.near
    have ff := hB.far
    have hm := hB.hm
    walk_at "go"
    cases w' with
    | none =>
      have fn : Fld K Hf xf "near" .non := fn
      obtain rfl : vw = .non := cwt
      cases o with
      | none =>
        obtain rfl : vo = .non := cot
        walk_at "go"
        refine q _ _ ?_ ⟨_, _, rfl, by assumption, ?_⟩
        · walk_at "ex"
        · walk_at "tin"
      | some b =>
        obtain ⟨to', rfl, cot⟩ := cot
        have hb1 : (false = true → b ≠ .inn → has3 none = false) ∧ (false = false → b ≠ .ff ∧ b ≠ .fs) := ⟨fun z => (by cases z), fun _ => ho b rfl⟩
        walk_at "go"
        refine q _ _ ?_ ⟨_, _, rfl, by assumption, ?_⟩
        · walk_at "ex"
        · walk_at "tin"
    | some c =>
      obtain ⟨tw, rfl, cwt⟩ := cwt
      by_cases hc : c = .inn
      · subst hc
        have fn : Fld K Hf xf "near" .non := fn
        have hb2 : (true = true → Br.inn ≠ .inn → has3 (some .inn) = false) ∧ (true = false → Br.inn ≠ .ff ∧ Br.inn ≠ .fs) := ⟨fun _ z => absurd rfl z, fun z => by cases z⟩
        cases o with
        | none =>
          obtain rfl : vo = .non := cot
          walk_at "go"
          refine q _ _ ?_ ⟨_, _, rfl, by assumption, ?_⟩
          · walk_at "ex"
          · walk_at "tin"
        | some b =>
          obtain ⟨to', rfl, cot⟩ := cot
          have hb1 : (false = true → b ≠ .inn → has3 (some .inn) = false) ∧ (false = false → b ≠ .ff ∧ b ≠ .fs) := ⟨fun z => (by cases z), fun _ => ho b rfl⟩
          walk_at "go"
          refine q _ _ ?_ ⟨_, _, rfl, by assumption, ?_⟩
          · walk_at "ex"
          · walk_at "tin"
      · have h3 : has3 (some c) = false := by cases c <;> first | rfl | exact absurd rfl hc
        rw [h3] at fn ff
        obtain ⟨tn, fn1, fn2⟩ := fn
        obtain ⟨tf, ff1, ff2⟩ := ff
        have hb2 : (true = true → c ≠ .inn → has3 (some c) = false) ∧ (true = false → c ≠ .ff ∧ c ≠ .fs) := ⟨fun _ _ => h3, fun z => by cases z⟩
        cases o with
        | none =>
          obtain rfl : vo = .non := cot
          walk_at "go"
          refine q _ _ ?_ ⟨_, _, rfl, by assumption, ?_⟩
          · walk_at "ex"
          · walk_at "tin2"
        | some b =>
          obtain ⟨to', rfl, cot⟩ := cot
          have hb1 : (false = true → b ≠ .inn → has3 (some c) = false) ∧ (false = false → b ≠ .ff ∧ b ≠ .fs) := ⟨fun z => (by cases z), fun _ => ho b rfl⟩
          walk_at "go"
          refine q _ _ ?_ ⟨_, _, rfl, by assumption, ?_⟩
          · walk_at "ex"
          · walk_at "tin2"

end
end M
namespace M
open PySem PySem.Spec PyProof.Rows L2 Evl
def casesOf (R : Rl) : List (Option Br × Option Br) := if R.turn.isSome then onceL.map (fun b => (some b, none)) ++ twiceL.map (fun b => (none, some b)) else onceL.flatMap fun o => twiceL.map fun w => (some o, some w)
theorem casesOf_once {R : Rl} {o w : Option Br} (h : (o, w) ∈ casesOf R) (b : Br) (hb : o = some b) : b ∈ onceL := by
  subst hb
  unfold casesOf at h
  split at h
  · simp only [List.mem_append, List.mem_map, Prod.mk.injEq] at h
    rcases h with ⟨c, hc, e, _⟩ | ⟨c, hc, e, _⟩
    · cases e
      exact hc
    · cases e
  · simp only [List.mem_flatMap, List.mem_map, Prod.mk.injEq] at h
    obtain ⟨c, hc, d, hd, e, _⟩ := h
    cases e
    exact hc
theorem onceL_not {b : Br} (h : b ∈ onceL) : b ≠ .inn ∧ b ≠ .ff ∧ b ≠ .fs := by
  simp only [onceL, List.mem_cons, List.not_mem_nil, or_false] at h
  rcases h with rfl | rfl | rfl | rfl <;> decide
/-- a case in a list -/
def CL (K : PySem.W.Frag) (pt : Bool) (c : Option Br × Option Br) (y : V) (H : Hp) : Prop := ∃ a, y = .ref a ∧ CaseAt K H a pt c.1 c.2
theorem CL.mono {K : PySem.W.Frag} {pt : Bool} {c : Option Br × Option Br} {y : V} {H H' : Hp} (e : ExN H H') (h : CL K pt c y H) : CL K pt c y H' :=
  let ⟨a, h1, h2⟩ := h; ⟨a, h1, h2.monoN e⟩
section
variable {X : Cx} {n : Nat} {fd : FuncData} {ps : List Str} {K : PySem.W.Frag}
theorem dcase_ins (x y : V) (H : Hp) (b : Bool) (h : DCase K x y H b) : ∃ a c dx dy fs gs, x = .ref a ∧ y = .ref c ∧ H a = some (.ins (He.ga K "Case") dx fs) ∧ H c = some (.ins (He.ga K "Case") dy gs) := by
  obtain ⟨a, a', pt, o, w', pt', o', w'', rfl, rfl, h1, h2, _⟩ := h
  obtain ⟨dx, fs, e⟩ := h1.c
  obtain ⟨dy, gs, e'⟩ := h2.c
  exact ⟨a, a', dx, dy, fs, gs, rfl, rfl, e, e'⟩
theorem fld_inj {H : Hp} {a : Addr} {f : Str} {v w : V} (h : Fld K H a f v) (h' : Fld K H a f w) : v = w := by
  obtain ⟨C, dx, fs, e, _, _, l⟩ := h
  obtain ⟨C', dx', fs', e', _, _, l'⟩ := h'
  rw [e] at e'
  cases e'
  rw [l] at l'
  exact Option.some.inj l'
theorem dS_inj {a b : Bool} (h : dS a = dS b) : a = b := by
  cases a <;> cases b <;> first | rfl | exact absurd h (by decide +kernel)
theorem Br.vs_inj {a b : Br} (h : a.vs = b.vs) : a = b := by
  have h1 : a.w1 = b.w1 := V.str.inj (List.cons.inj h).1
  have h2 : a.w2 = b.w2 := V.str.inj (List.cons.inj (List.cons.inj h).2).1
  have e : decide (a = b) = PyData.eqv a.d b.d := (Br.eqv a b).symm
  have e2 : PyData.eqv a.d b.d = true := by
    have : a.d = b.d := by rw [Br.d, Br.d, h1, h2]
    rw [this, Br.eqv, decide_eq_true rfl]
  rw [e2] at e
  exact of_decide_eq_true e
theorem TO.inj {pins : List (Addr × Obj)} {σ : L2.St} {H : Hp} {s : Shared} (I : Inv X pins σ H s) {v : V} {o o' : Option Br} (h : TO X.K H v o) (h' : TO X.K H v o') : o = o' := by
  cases o with
  | none =>
    obtain rfl : v = .non := h
    cases o' with
    | none => rfl
    | some b =>
      obtain ⟨a, e, _⟩ := h'
      cases e
  | some b =>
    obtain ⟨a, rfl, h⟩ := h
    cases o' with
    | none => cases h'
    | some b' =>
      obtain ⟨a', e, h'⟩ := h'
      cases e
      rw [Br.vs_inj (I.tuple_inj h h')]
theorem dcase_same (pins : List (Addr × Obj)) (σ : L2.St) (H : Hp) (s : Shared) (a : Addr) (b : Bool) (I : Inv X pins σ H s) (h : DCase X.K (.ref a) (.ref a) H b) : b = true := by
  obtain ⟨a1, a2, pt, o, w', pt', o', w'', e1, e2, h1, h2, hb⟩ := h
  cases e1
  cases e2
  have d := dS_inj (V.str.inj (fld_inj h1.d h2.d))
  obtain ⟨v, f, t⟩ := h1.o
  obtain ⟨v', f', t'⟩ := h2.o
  cases fld_inj f f'
  have eo := TO.inj I t t'
  obtain ⟨v, f, t⟩ := h1.w
  obtain ⟨v', f', t'⟩ := h2.w
  cases fld_inj f f'
  have ew := TO.inj I t t'
  rw [hb, d, eo, ew]
  exact decide_eq_true rfl
end
open Classical in
theorem k_notInCases {K : PySem.W.Frag} {H : Hp} {Q : VK} {l a : Addr} {ys : List V} {pt : Bool} {R : Rl} {o w : Option Br} (hl : H l = some (.lst ys)) (a2 : All2 (CL K pt) (casesOf R) ys H) (hC : CaseAt K H a pt o w) (hm : (o, w) ∈ casesOf R) (q : ∀ H', Ex H H' → Q (.bl false) H') : rNotInB (DCase K) (.ref a) (.ref l) H Q := by
  refine ⟨l, ys, fun z => decide (CL K pt (o, w) z H), rfl, hl, fun z hz H' e => ?_, fun H' e => ?_⟩
  · obtain ⟨i, hi, ez⟩ := List.mem_iff_getElem.mp hz
    have hi2 : i < (casesOf R).length := by rw [← a2.1]; exact hi
    have cz : CL K pt (casesOf R)[i] z H := a2.2 i _ z (List.getElem?_eq_getElem hi2) (by rw [List.getElem?_eq_getElem hi, ez])
    by_cases h : CL K pt (o, w) z H
    · obtain ⟨az, rfl, hzz⟩ := id h
      refine ⟨az, a, pt, o, w, pt, o, w, rfl, rfl, hzz.mono e, hC.mono e, ?_⟩
      show decide (CL K pt (o, w) (V.ref az) H) = _
      rw [decide_eq_true h, decide_eq_true rfl]
    · obtain ⟨az, rfl, hzz⟩ := id cz
      refine ⟨az, a, pt, _, _, pt, o, w, rfl, rfl, hzz.mono e, hC.mono e, ?_⟩
      show decide (CL K pt (o, w) (V.ref az) H) = _
      rw [decide_eq_false h]
      refine (decide_eq_false fun hh => h ?_).symm
      have hh2 : (casesOf R)[i] = (o, w) := (Prod.mk.inj hh).2
      rw [← hh2]
      exact cz
  · have any : (ys.any fun z => decide (CL K pt (o, w) z H)) = true := by
      obtain ⟨i, hi, e⟩ := List.mem_iff_getElem.mp hm
      have hi2 : i < ys.length := by rw [a2.1]; exact hi
      exact List.any_eq_true.mpr ⟨ys[i], List.getElem_mem hi2, decide_eq_true (a2.2 i _ _ (by rw [List.getElem?_eq_getElem hi, e]) (List.getElem?_eq_getElem hi2))⟩
    rw [any]
    exact q H' e
/-- lengths of tests -/
theorem len_add {xs ys : List Int} {n : Nat} (h : xs.length = n) (g : ys.length = n) : (addF xs ys).length = n := by rw [addF, List.length_map, List.length_zip, h, g, Nat.min_self]
theorem len_scale {xs : List Int} {n : Nat} (k : Int) (h : xs.length = n) : (scaleF k xs).length = n := by rw [scaleF, List.length_map, h]
theorem testsT_len {R : Rl} {pt : Bool} {o w : Option Br} (ho : ∀ b, o = some b → b ≠ .ff ∧ b ≠ .fs) (j : List Int × Int) (hj : j ∈ testsT R pt o w) : j.1.length = if has3 w then 3 else 4 := by
  have a := (bl_light (has3 w)).len
  have b := (bl_outer (has3 w)).len
  have c := (bl_inner (has3 w)).len
  have hv := (bl_heavy (has3 w)).len
  simp only [testsT, List.mem_append, List.mem_singleton, List.mem_map] at hj
  rcases hj with ((((((hj | hj) | hj) | hj) | hj) | hj) | hj) | hj
  · obtain ⟨u, hu, rfl⟩ := hj
    cases h : has3 w <;> simp only [h, unitsP, if_true, if_false, Bool.false_eq_true, List.mem_cons, List.not_mem_nil, or_false] at hu ⊢
    · rcases hu with rfl | rfl | rfl | rfl <;> rfl
    · rcases hu with rfl | rfl | rfl <;> rfl
  · subst hj
    exact len_add (len_scale _ hv) (len_scale _ a)
  · subst hj
    exact len_add (len_scale _ a) (len_scale _ hv)
  · simp only [fairT, List.mem_cons, List.not_mem_nil, or_false] at hj
    rcases hj with rfl | rfl
    · exact len_add (len_scale _ c) (len_scale _ b)
    · exact len_add (len_scale _ b) (len_scale _ c)
  · cases h : has3 w with
    | true =>
      rw [h] at hj
      simp at hj
    | false =>
      rw [h] at hj
      simp only [fairT, Bool.false_eq_true, if_false, List.mem_cons, List.not_mem_nil, or_false] at hj ⊢
      rcases hj with rfl | rfl <;> rfl
  · unfold turnT at hj
    split at hj
    · cases hj
    · simp only [List.mem_singleton] at hj
      subst hj
      split
      · exact len_scale _ (len_add (len_scale _ b) (len_scale _ c))
      · exact len_add (len_scale _ b) (len_scale _ c)
  · cases o with
    | none => cases hj
    | some d =>
      simp only [List.mem_singleton] at hj
      subst hj
      have s := bl_sides (has3 w) false d (fun z => by cases z)
      unfold breakT
      split
      · exact len_scale _ c
      · split
        · exact len_add (len_scale _ s.1.len) (len_scale _ s.2.len)
        · exact len_add (len_scale _ s.2.len) (len_scale _ s.1.len)
  · cases w with
    | none => cases hj
    | some d =>
      simp only [List.mem_singleton] at hj
      subst hj
      unfold breakT
      split
      · exact len_scale _ c
      · rename_i hd
        have h3 : has3 (some d) = false := by cases d <;> first | rfl | exact absurd rfl hd
        have s := bl_sides (has3 (some d)) true d (fun _ => h3)
        split
        · exact len_add (len_scale _ s.1.len) (len_scale _ s.2.len)
        · exact len_add (len_scale _ s.2.len) (len_scale _ s.1.len)
theorem TO.none1 {K : PySem.W.Frag} {H : Hp} : TO K H .non none := rfl
theorem TO.some1 {K : PySem.W.Frag} {H : Hp} {a : Addr} {b : Br} (h : SqT K H a b.vs) : TO K H (.ref a) (some b) := ⟨a, rfl, h⟩
section
variable {K : PySem.W.Frag} {H : Hp} {σ : L2.St} {D : Ends} {g : TG} {tb : TS}
theorem k_for {wi : L2.TI} (h : wi σ H fun J H1 => ∃ W : Nat → Nat → L2.St → Hp → Prop, (∃ m, W 0 m σ H1) ∧ ∀ i m σ H, W i m σ H →
  (J.stop i H ∧ D.nx σ H) ∨ (J.go i H ∧ ∃ N : L2.St → Hp → Prop, (∀ σ' H', N σ' H' → ∃ m', m' < m ∧ W (i + 1) m' σ' H') ∧ ∀ x H', J.yld i H x H' → g x σ H' fun σ2 H2 => tb { D with nx := N, ct := N, bk := D.nx } σ2 H2)) : tFor wi g tb D σ H := h
end
theorem turnT_small (R : Rl) (a b : Bool) : (turnT R a b).length ≤ 1 := by
  unfold turnT
  split <;> simp
theorem testsT_small (R : Rl) (pt : Bool) (o w : Option Br) : (testsT R pt o w).length < 900 := by
  have h1 : (unitsP (has3 w)).length ≤ 4 := by cases has3 w <;> simp [unitsP]
  have h2 := turnT_small R (has3 w) w.isSome
  have h3 : (if has3 w = true then ([] : List (List Int × Int)) else fairT R nearP farP).length ≤ 2 := by split <;> simp [fairT]
  unfold testsT
  cases o <;> cases w <;> simp only [fairT, List.length_append, List.length_map, List.length_cons, List.length_nil] at * <;> omega
theorem zip_all {L : List (List Int × Int)} {ts : List V} {xs : List Int} (h : ts.length = L.length) : ((L.zip ts).map fun j => decide (j.1.2 ≤ dot j.1.1 xs)).all id = holds L xs := by
  have e : ((L.zip ts).map fun j => decide (j.1.2 ≤ dot j.1.1 xs)) = L.map fun t => decide (t.2 ≤ dot t.1 xs) := by
    have : (L.zip ts).map Prod.fst = L := List.map_fst_zip (by omega)
    conv => rhs; rw [← this]
    rw [List.map_map]
    rfl
  rw [e, List.all_map]
  rfl
section
variable {K : PySem.W.Frag} {H : Hp} {Q : VK}
theorem k_callI {a C : Addr} {F : Prop} (h : ∃ dx fs, H a = some (.ins C dx fs)) (q : F) : (∃ dx fs, H a = some (.ins C dx fs)) ∧ F := ⟨h, q⟩
theorem k_callI0 {σ : L2.St} {C : Addr} {sp : Sp} {E : XK} {tf : TE} {t : TA} (h : tf σ H fun y H1 => ∃ a, y = V.ref a ∧ t σ H1 fun vs H2 => (∃ dx fs, H2 a = some (.ins C dx fs)) ∧ sp (V.ref a :: vs) H2 Q E) : tCallI C sp E tf t σ H Q := h
theorem k_callI1 {a : Addr} {t : TA} {σ : L2.St} {G : Addr → List V → Hp → Prop} (q : t σ H (G a)) : ∃ a', V.ref a = .ref a' ∧ t σ H (G a') := ⟨a, rfl, q⟩
end
end M
namespace M
open PySem PySem.Spec PyProof.Rows L2 Evl
/-- o.f = .. among several -/
def gFld (K : PySem.W.Frag) (to : TE) (f : Str) : TG := fun v σ H Q => to σ H fun x H1 => SF K f v x H1 (Q σ)
theorem pg_fld {X : Cx} {o : Expr} {f : Str} {pos : Pos} {to : TE} (ho : PE X o to)
    (ha : ∀ v, assign (.Attribute o f pos) X.env v = (do
      let ov ← holding [v] (eval o X.env)
      standAt pos.atName
      holding [v, ov] (setAttr ov f v)
      release [v, ov] []) := by intro _; rfl) : PG X (.Attribute o f pos) (gFld X.K to f) := by
  refine ⟨fun pins s σ H v u Q I r h => ?_⟩
  rw [ha]
  refine wpAny_bind (wpAny_holding (thn (ho.run pins s σ H _ I h) fun ov s1 ⟨x, H1, I1, r1, a, C, dx, fs, ex, ea, c, n, l, q⟩ => ?_))
  subst ex
  obtain rfl : ov = Value.ref a := r1
  refine wpAny_bind (wpAny_standAt (wpAny_bind (wpAny_holding (setattr_ok I1 ea c n l r fun s3 I3 => ?_))))
  exact wpAny_release ⟨σ, _, I3, q⟩
section
variable {K : PySem.W.Frag} {H : Hp} {σ : L2.St} {to : TE} {v : V} {k : L2.St → Hp → Prop}
theorem k_gfld {f : Str} (h : to σ H fun x H1 => SF K f v x H1 (k σ)) : gFld K to f v σ H k := h
end
end M
namespace M
open PySem PySem.Spec PyProof.Rows L2 Evl
local macro_rules | `(tactic| walk_at "ar") => `(tactic| first | exact rfl | omega | (simp only [List.length_map, List.length_cons, List.length_nil] at *; omega) | decide)
local macro_rules | `(tactic| walk_at "ex") => `(tactic| first | with_reducible assumption | exact Ex.refl _ | (refine' Ex.trans ?a ?b; (case b => with_reducible assumption); (case a => walk_at "ex")) | (refine' Ex.mu2 ?a ?n ?b; (case b => with_reducible assumption); (case n => with_reducible assumption); (case a => walk_at "ex")))
local macro_rules | `(tactic| walk_at "exn") => `(tactic| first | with_reducible assumption | exact ExN.refl _ | (refine' ExN.trans ?a (ExN.of ?b); (case b => with_reducible assumption); (case a => walk_at "exn")) | (refine' ExN.trans ?a ?b; (case b => with_reducible assumption); (case a => walk_at "exn")))
local macro_rules | `(tactic| walk_at "ln") => `(tactic| first | exact rfl | omega | (simp only [scaleF, addF, List.length_map, List.length_zip, List.length_cons, List.length_nil] <;> omega))
local macro_rules | `(tactic| walk_at "kn") => `(tactic| first
  | with_reducible assumption
  | ((with_reducible refine' Fld.mono ?e ?m); (case e => with_reducible assumption); (case m => walk_at "kn"))
  | ((with_reducible refine' Ins.mono ?e ?m); (case e => with_reducible assumption); (case m => walk_at "kn"))
  | ((with_reducible refine' SqT.of ?m); (case m => walk_at "kn"))
  | ((with_reducible refine' SqL.of ?m); (case m => walk_at "kn"))
  | with_reducible exact kn_DEEDS (by assumption)
  | with_reducible exact kn_INNER (by assumption)
  | with_reducible exact kn_ONCE (by assumption)
  | with_reducible exact kn_TWICE (by assumption)
  | ((with_reducible refine' RB.mono ?e ?m); (case e => with_reducible assumption); (case m => walk_at "kn"))
  | ((with_reducible refine' RuleI.mono ?e ?m); (case e => with_reducible assumption); (case m => walk_at "kn"))
  | ((with_reducible refine' TestAt.mono ?e ?m); (case e => with_reducible assumption); (case m => walk_at "kn"))
  | ((with_reducible refine' TO_mono ?e ?m); (case e => with_reducible assumption); (case m => walk_at "kn"))
  | ((with_reducible refine' CaseAt.mono ?e ?m); (case e => with_reducible assumption); (case m => walk_at "kn"))
  | ((with_reducible refine' LT.fair ?e ?m); (case e => with_reducible assumption); (case m => with_reducible assumption))
  | ((with_reducible refine' LT.turn ?e ?m); (case e => with_reducible assumption); (case m => with_reducible assumption))
  | ((with_reducible refine' FormsB.mono ?e ?m); (case e => with_reducible assumption); (case m => walk_at "kn"))
  | ((with_reducible refine' tl_mono ?e ?m); (case e => with_reducible assumption); (case m => walk_at "kn"))
  | ((with_reducible refine' ExN.t ?e ?m); (case e => with_reducible assumption); (case m => walk_at "kn"))
  | ((with_reducible refine' ExN.fld ?e ?m); (case e => with_reducible assumption); (case m => walk_at "kn"))
  | ((with_reducible refine' ExN.ins ?e ?m); (case e => with_reducible assumption); (case m => walk_at "kn"))
  | ((with_reducible refine' RuleI.monoN ?e ?m); (case e => with_reducible assumption); (case m => walk_at "kn"))
  | ((with_reducible refine' TestAt.monoN ?e ?m); (case e => with_reducible assumption); (case m => walk_at "kn"))
  | ((with_reducible refine' CaseAt.monoN ?e ?m); (case e => with_reducible assumption); (case m => walk_at "kn"))
  | ((with_reducible refine' FormsB.monoN ?e ?m); (case e => with_reducible assumption); (case m => walk_at "kn"))
  | ((with_reducible refine' tl_monoN ?e ?m); (case e => with_reducible assumption); (case m => walk_at "kn"))
  | ((with_reducible refine' LT.mono ?e ?m); (case e => with_reducible assumption); (case m => walk_at "kn"))
  | ((with_reducible refine' ex_t ?e ?m); (case e => with_reducible assumption); (case m => walk_at "kn"))
  | ((with_reducible refine' ex_l ?e ?m); (case e => with_reducible assumption); (case m => walk_at "kn"))
  | ((with_reducible refine' Ex.at ?e ?m); (case e => with_reducible assumption); (case m => walk_at "kn"))
  | ((with_reducible refine' Mu.t ?e ?n ?m); (case e => with_reducible assumption); (case n => with_reducible assumption); (case m => walk_at "kn"))
  | ((with_reducible refine' Mu.lst ?e ?n ?m); (case e => with_reducible assumption); (case n => with_reducible assumption); (case m => walk_at "kn"))
  | ((with_reducible refine' Mu.fld ?e ?n ?m); (case e => with_reducible assumption); (case n => with_reducible assumption); (case m => walk_at "kn")))
local macro_rules | `(tactic| walk_at "st") => `(tactic| first
  | with_reducible refine k_seq ?_
  | with_reducible refine k_asg ?_
  | with_reducible refine k_ret ?_
  | with_reducible refine k_drop ?_
  | with_reducible refine k_ifS ?_
  | with_reducible refine k_name ?_
  | with_reducible refine k_next ?_
  | ((with_reducible refine' k_var ?hv ?_); case hv => exact rfl)
  | with_reducible refine k_c ?_
  | with_reducible refine k_fld ?_
  | ((with_reducible refine' k_fld2 ?hv ?_); case hv => walk_at "kn")
  | with_reducible refine k_op ?_
  | with_reducible refine k_un ?_
  | with_reducible refine k_add ?_
  | with_reducible refine k_sub ?_
  | with_reducible refine k_neg ?_
  | ((with_reducible refine' k_mul ?hv ?_); case hv => first | (left; constructor <;> omega) | (right; constructor <;> omega))
  | ((with_reducible refine' k_fdiv ?hv ?_); case hv => constructor <;> omega)
  | ((with_reducible refine' k_mod ?hv ?_); case hv => omega)
  | with_reducible refine k_lt ?_
  | with_reducible refine k_le ?_
  | with_reducible refine k_gt ?_
  | with_reducible refine k_ge ?_
  | with_reducible refine k_eqI ?_
  | with_reducible refine k_eqT ?_
  | with_reducible refine k_neI ?_
  | with_reducible refine k_isN_int ?_
  | with_reducible refine k_isN_ref ?_
  | with_reducible refine k_isN_non ?_
  | with_reducible refine k_notN_int ?_
  | with_reducible refine k_notN_ref ?_
  | with_reducible refine k_notN_non ?_
  | with_reducible refine k_test ?_
  | with_reducible refine k_B ?_
  | with_reducible refine k_bx ?_
  | with_reducible refine k_not ?_
  | with_reducible refine k_notV ?_
  | with_reducible refine k_and ?_
  | with_reducible refine k_or ?_
  | with_reducible refine k_andV ?_
  | with_reducible refine k_orV ?_
  | with_reducible refine k_if ?_
  | with_reducible refine k_chain ?_
  | with_reducible refine iteT ?_
  | with_reducible refine iteF ?_
  | with_reducible refine k_nil ?_
  | with_reducible refine k_cons ?_
  | with_reducible refine k_tup ?_
  | with_reducible refine k_lst ?_
  | with_reducible refine k_call ?_
  | with_reducible refine k_meth ?_
  | ((with_reducible refine' k_meth2 ?hv ?_); case hv => walk_at "kn")
  | with_reducible refine k_make ?_
  | with_reducible refine k_cb ?_
  | with_reducible refine k_min2 ?_
  | with_reducible refine k_max2 ?_
  | with_reducible refine k_int1 ?_
  | with_reducible refine k_int1b ?_
  | with_reducible refine k_abs1 ?_
  | ((with_reducible refine' k_gtup ?hv ?hw ?_); (case hv => walk_at "kn"); (case hw => rfl))
  | with_reducible refine k_gcons ?_
  | with_reducible refine k_gnil ?_
  | with_reducible refine k_isi_ii ?_
  | with_reducible refine k_isi_ib ?_
  | with_reducible refine k_isi_ss ?_
  | ((with_reducible refine' k_isi_tt ?hv ?_); case hv => walk_at "kn")
  | with_reducible refine iteNT ?_
  | with_reducible refine iteNF ?_
  | with_reducible refine k_cval ?_
  | ((with_reducible refine' k_cval2 ?hv ?_); case hv => exact kn_most (by assumption))
  | with_reducible refine k_lc ?_
  | with_reducible refine k_iT ?_
  | ((with_reducible refine' k_iT2 ?hv ?_); case hv => walk_at "kn")
  | with_reducible refine k_iL ?_
  | ((with_reducible refine' k_iL2 ?hv ?_); case hv => walk_at "kn")
  | with_reducible refine k_i1 ?_
  | ((with_reducible refine' k_i1a ?hv ?_); case hv => constructor <;> omega)
  | with_reducible refine k_i2 ?_
  | ((with_reducible refine' k_i2a ?hv ?_); case hv => refine ⟨?_, ?_, ?_, ?_⟩ <;> omega)
  | with_reducible refine k_iZ ?_
  | ((with_reducible refine' k_iZa ?hv ?hw ?_); (case hv => walk_at "kn"); (case hw => walk_at "kn"))
  | with_reducible refine k_iN ?_
  | ((with_reducible refine' k_lenT ?hv ?_); case hv => walk_at "kn")
  | ((with_reducible refine' k_lenL ?hv ?_); case hv => walk_at "kn")
  | ((with_reducible refine' k_ixT ?hv ?hw ?_); (case hv => walk_at "kn"); (case hw => rfl))
  | ((with_reducible refine' k_tupL ?hv ?_); (case hv => walk_at "kn"); (refine' fun _ _ _ _ _ => ?_))
  | ((with_reducible refine' k_tupT ?hv ?_); (case hv => walk_at "kn"))
  | ((with_reducible refine' k_new ?hv ?_); (case hv => (simp only [List.length_cons, List.length_nil]; exact sze _ (by omega))); (refine' fun _ _ _ _ _ => ?_))
  | ((with_reducible refine' k_isiW ?hT ?hv ?_); (case hT => assumption); (case hv => walk_at "kn"))
  | ((with_reducible refine' k_isiT ?hT ?hv ?_); (case hT => assumption); (case hv => walk_at "kn"))
  | ((with_reducible refine' k_isiC ?hT ?hv ?_); (case hT => assumption); (case hv => walk_at "kn"))
  | ((with_reducible refine' k_isiLT ?hv ?hw ?_); (case hv => walk_at "kn"); (case hw => walk_at "kn"))
  | ((with_reducible refine' k_isN_TO ?hv ?_); (case hv => walk_at "kn"))
  | ((with_reducible refine' k_notN_TO ?hv ?_); (case hv => walk_at "kn"))
  | ((with_reducible refine' k_notInDeeds ?hv ?_); (case hv => walk_at "kn"))
  | with_reducible refine k_eqPut ?_
  | ((refine' k_eqB .inn ?hv ?hw ?hx ?_); (case hv => walk_at "kn"); (case hw => walk_at "kn"); (case hx => rfl))
  | ((refine' k_eqB .lf ?hv ?hw ?hx ?_); (case hv => walk_at "kn"); (case hw => walk_at "kn"); (case hx => rfl))
  | ((refine' k_eqB .ls ?hv ?hw ?hx ?_); (case hv => walk_at "kn"); (case hw => walk_at "kn"); (case hx => rfl))
  | ((refine' k_eqB .ff ?hv ?hw ?hx ?_); (case hv => walk_at "kn"); (case hw => walk_at "kn"); (case hx => rfl))
  | ((refine' k_eqB .fs ?hv ?hw ?hx ?_); (case hv => walk_at "kn"); (case hw => walk_at "kn"); (case hx => rfl))
  | ((refine' k_eqB .tf ?hv ?hw ?hx ?_); (case hv => walk_at "kn"); (case hw => walk_at "kn"); (case hx => rfl))
  | ((with_reducible refine' k_yes ?hv ?_); (case hv => walk_at "ar"))
  | ((with_reducible refine' k_no ?hv ?_); (case hv => walk_at "ar"))
  | ((with_reducible refine' k_nyes ?hv ?_); (case hv => walk_at "ar"))
  | ((with_reducible refine' k_nno ?hv ?_); (case hv => walk_at "ar"))
  | with_reducible refine k_sfld ?_
  | ((with_reducible refine' k_ixL ?hv ?hw ?_); (case hv => walk_at "kn"); (case hw => rfl))
  | ((with_reducible refine' k_sumTu _ ?hv ?_); (case hv => walk_at "kn"))
  | ((with_reducible refine' u_is_integer  ?_); (refine' fun _ _ => ?_))
  | ((with_reducible refine' u_over ?ha ?_); (case ha => constructor <;> omega); (refine' fun _ _ => ?_))
  | ((with_reducible refine' u_is_within ?ha ?_); (case ha => constructor <;> omega); (refine' fun _ _ => ?_))
  | ((with_reducible refine' u_need_plus ?ha ?_); (case ha => constructor <;> omega); (refine' fun _ _ => ?_))
  | ((with_reducible refine' u_need_weight ?ha ?_); (case ha => constructor <;> omega); (refine' fun _ _ => ?_))
  | ((with_reducible refine' u_is_times ?ha ?hb ?_); (case ha => walk_at "kn"); (case hb => refine ⟨⟨?_, ?_⟩, ?_, ?_⟩ <;> omega); (refine' fun _ _ => ?_))
  | ((with_reducible refine' u_beside ?ha ?_); (case ha => walk_at "kn"); (refine' fun _ _ => ?_))
  | ((with_reducible refine' u_greatest ?ha ?hb ?_); (case ha => walk_at "kn"); (case hb => constructor <;> omega); (refine' fun _ _ => ?_))
  | ((with_reducible refine' u_need_weight_rule ?ha ?_); (case ha => walk_at "kn"); (refine' fun _ _ => ?_))
  | ((with_reducible refine' u_need_deed  ?_); (refine' fun _ _ => ?_))
  | ((with_reducible refine' u_has_three ?ha ?_); (case ha => walk_at "kn"); (refine' fun _ _ => ?_))
  | ((with_reducible refine' u_scaled ?ha ?hb ?_); (case ha => walk_at "kn"); (case hb => refine ⟨⟨?_, ?_⟩, ?_⟩ <;> (walk_at "ln")); (refine' fun _ _ _ _ => ?_))
  | ((with_reducible refine' u_added ?ha ?hb ?hc ?_); (case ha => walk_at "kn"); (case hb => walk_at "kn"); (case hc => constructor <;> (walk_at "ln")); (refine' fun _ _ _ _ => ?_))
  | ((with_reducible refine' u_amount ?ha ?hb ?hc ?_); (case ha => walk_at "kn"); (case hb => walk_at "kn"); (case hc => assumption); (refine' fun _ _ => ?_))
  | ((with_reducible refine' u_mk_Test ?ha ?hb ?_); (case ha => walk_at "kn"); (case hb => assumption); (refine' fun _ _ _ _ => ?_))
  | ((with_reducible refine' k_eq1st  ?_))
  | ((with_reducible refine' u_heavy_form ?ha ?_); (case ha => walk_at "kn"); (refine' fun _ _ _ _ => ?_))
  | ((with_reducible refine' u_sides ?ha ?hb ?_); (case ha => walk_at "kn"); (case hb => assumption); (refine' fun _ _ _ _ _ _ _ _ => ?_))
  | ((with_reducible refine' u_fair_tests ?ha ?hb ?hc ?hd ?_); (case ha => walk_at "kn"); (case hb => walk_at "kn"); (case hc => walk_at "kn"); (case hd => assumption); (refine' fun _ _ _ _ _ _ => ?_))
  | ((with_reducible refine' u_unfair_test ?ha ?hb ?hc ?hd ?_); (case ha => walk_at "kn"); (case hb => walk_at "kn"); (case hc => walk_at "kn"); (case hd => assumption); (refine' fun _ _ _ _ => ?_))
  | ((with_reducible refine' k_eq1st  ?_))
  | ((with_reducible refine' u_turn_tests ?ha ?hb ?_); (case ha => walk_at "kn"); (case hb => walk_at "kn"); (refine' fun _ _ _ _ _ _ => ?_))
  | ((with_reducible refine' u_break_test ?ha ?hb ?hc ?hd ?_); (case ha => walk_at "kn"); (case hb => walk_at "kn"); (case hc => walk_at "kn"); (case hd => assumption); (refine' fun _ _ _ _ => ?_))
  | ((with_reducible refine' k_ifv ?ha ?hb ?_); (case ha => exact rfl); (case hb => exact rfl))
  | ((with_reducible refine' k_apT ?ha ?hb ?hc ?_); (case ha => walk_at "kn"); (case hb => omega); (case hc => first | with_reducible assumption | (with_reducible exact TL.mk2 (by assumption)) | (with_reducible exact TL.mk (by assumption))); (refine' fun _ _ _ _ => ?_))
  | ((with_reducible refine' k_exT ?ha ?hb ?hc ?_); (case ha => walk_at "kn"); (case hb => walk_at "kn"); (case hc => omega); (refine' fun _ _ _ _ => ?_))
  | ((with_reducible refine' k_bm  ?_))
  | ((with_reducible refine' k_bmL ?ha ?_); (case ha => walk_at "kn"))
  | ((with_reducible refine' k_tupLT ?ha ?_); (case ha => walk_at "kn"); (refine' fun _ _ _ _ _ _ => ?_)))
local macro_rules | `(tactic| walk_at "go") => `(tactic| repeat (walk_at "st"))
local macro_rules | `(tactic| walk_at "run") => `(tactic| (dsimp only [cxK]; walk_at "go"))

section
variable {P : Program} {w : World} {K : PySem.W.Frag} {mg : Str → Option Value} {base : Heap}
local macro_rules | `(tactic| walk_at "st") => `(tactic| first
  | ((with_reducible refine' u_mk_Case ?ha ?hb ?_); (case ha => walk_at "kt"); (case hb => walk_at "kt"); (refine' fun _ _ _ _ => ?_)))
local macro_rules | `(tactic| walk_at "st") => `(tactic| first
  | ((with_reducible refine' k_bmL1 ?ha ?_); (case ha => walk_at "kn")))
local macro_rules | `(tactic| walk_at "st") => `(tactic| first
  | ((with_reducible refine' k_for  ?_)))
local macro_rules | `(tactic| walk_at "kt") => `(tactic| first
  | with_reducible exact TO.none1
  | with_reducible exact TO.some1 (kn_twice1 (by assumption) _)
  | with_reducible exact TO.some1 (kn_once1 (by assumption) (by assumption))
  | walk_at "kn")
def sp_all_cases (K : PySem.W.Frag) : Sp := PR (fun i : Addr × Rl × Bool => [.ref i.1, .str (dS i.2.2)]) (fun i H => RuleI K H i.1 i.2.1) fun i _ v H' => ∃ l ys, v = .ref l ∧ H' l = some (.lst ys) ∧ All2 (CL K i.2.2) (casesOf i.2.1) ys H'
theorem ok_all_cases (T : TX K mg) : Ok P w K mg base 3 (He.ga K "all_cases") ["rule", "deed"] (sp_all_cases K) := by
  obtain ⟨fd, F⟩ := T.F_all_cases
  obtain ⟨_, G_Case_init, b_Case_init, k_Case_init⟩ := ok_Case_init (P := P) (w := w) (base := base) T
  refine ⟨fd, okN F sc_all_cases (by first | exact SV.len (fun _ => rfl) | exact PR.len (fun _ => rfl) | exact SJ.len (fun _ => rfl) | exact spEqB_len) (fun cdv A outer s H vs Q E hr h => ?_), F.bindsN (fun _ _ _ _ _ _ us hl => match us, hl with | [_, _], _ => rfl), F.kp⟩
  obtain ⟨⟨r, R, pt⟩, rfl, hR, q⟩ := h
  dsimp only at hR q
  refine ⟨_, (pss_cons (ps_if (pt_val (pe_callB (call_isi) (by rfl) T.n_isinstance (by decide +kernel) (pa_cons (pv 0) (pa_cons (pe_glob (v := .ref (He.ga K "TurnRule")) (by rfl) T.g_TurnRule rfl) pa_nil)))) (pss_one (ps_ret (pe_op op_cat (pe_lc (own := [("once", 3)]) (by rfl) sc_all_cases.nd (pi_tup (pe_glob (v := .ref (He.ga K "ONCE")) (by rfl) T.g_ONCE rfl)) (blkOk_by (by rfl)) (fun _ _ _ _ _ => pg_name (i := 3) sc_all_cases.nd rfl (by first | exact Or.inl rfl | exact Or.inr rfl)) (fun _ _ _ _ _ => pts_nil) (fun _ _ _ _ _ => (pe_make T.mk_Case G_Case_init (hr.mono (by decide)) (by rfl) T.g_Case b_Case_init .nil pass0 (pa_cons (pv 1) (pa_cons (pv 3) (pa_cons pe_non pa_nil)))))) (pe_lc (own := [("twice", 4)]) (by rfl) sc_all_cases.nd (pi_tup (pe_glob (v := .ref (He.ga K "TWICE")) (by rfl) T.g_TWICE rfl)) (blkOk_by (by rfl)) (fun _ _ _ _ _ => pg_name (i := 4) sc_all_cases.nd rfl (by first | exact Or.inl rfl | exact Or.inr rfl)) (fun _ _ _ _ _ => pts_nil) (fun _ _ _ _ _ => (pe_make T.mk_Case G_Case_init (hr.mono (by decide)) (by rfl) T.g_Case b_Case_init .nil pass0 (pa_cons (pv 1) (pa_cons pe_non (pa_cons (pv 4) pa_nil))))))))) pss_nil)
      (pss_cons (ps_set (i := 2) sc_all_cases.nd rfl (Or.inl rfl) (pe_lst pa_nil))
      (pss_cons (ps_for PassesOwn.never rfl (pi_tup (pe_glob (v := .ref (He.ga K "ONCE")) (by rfl) T.g_ONCE rfl)) (pg_name (i := 3) sc_all_cases.nd rfl (by first | exact Or.inl rfl | exact Or.inr rfl)) (pss_one (ps_expr (pe_bm PySem.F.plainAttrs_list PySem.F.slot_list_extend PySem.F.type_list_extend mt_extend (pv 2) (pa_cons (pe_lc (own := [("twice", 4)]) (by rfl) sc_all_cases.nd (pi_tup (pe_glob (v := .ref (He.ga K "TWICE")) (by rfl) T.g_TWICE rfl)) (blkOk_by (by rfl)) (fun _ _ _ _ _ => pg_name (i := 4) sc_all_cases.nd rfl (by first | exact Or.inl rfl | exact Or.inr rfl)) (fun _ _ _ _ _ => pts_nil) (fun _ _ _ _ _ => (pe_make T.mk_Case G_Case_init (hr.mono (by decide)) (by rfl) T.g_Case b_Case_init .nil pass0 (pa_cons (pv 1) (pa_cons (pv 3) (pa_cons (pv 4) pa_nil)))))) pa_nil)))))
      (pss_one (ps_ret (pv 2)))))), ?_⟩
  walk_at "run"
  cases hT : R.turn with
  | some tt =>
    refine iteT ?_
    walk_at "go"
    refine lcT onceL (c := fun b => V.ref (onceA K b)) (R := fun j y H => CL K pt (some j, none) y H) (sz 4 (by omega)) (kn_ONCE T) ⟨fun _ _ _ _ e h => h.mono e, fun j H' Qk hj e q => ?_⟩ fun D H1 ys hD e hy a2 => ?_
    · refine k_name ⟨rfl, ?_⟩
      walk_at "go"
      exact q _ _ (by assumption) ⟨_, rfl, by assumption⟩
    · walk_at "go"
      refine lcT twiceL (c := fun b => V.ref (twiceA K b)) (R := fun j y H => CL K pt (none, some j) y H) (sz 7 (by omega)) (kn_TWICE T) ⟨fun _ _ _ _ e h => h.mono e, fun j H' Qk hj e q => ?_⟩ fun D2 H2 zs hD2 e2 hz a3 => ?_
      · refine k_name ⟨rfl, ?_⟩
        walk_at "go"
        exact q _ _ (by assumption) ⟨_, rfl, by assumption⟩
      · have l1 : ys.length = 4 := a2.1
        have l2 : zs.length = 7 := a3.1
        refine ⟨D, D2, ys, zs, rfl, rfl, e2 _ _ hy, hz, sze _ (by omega), fun p hp => ?_⟩
        refine q _ _ ((e.trans e2).trans (Ex.new hp)) ⟨p, _, rfl, upd_same, ?_⟩
        have en : ExN H2 (upd H2 p (.lst (ys ++ zs))) := .of (Ex.new hp)
        have ec : casesOf R = onceL.map (fun b => (some b, none)) ++ twiceL.map (fun b => (none, some b)) := by simp [casesOf, hT]
        rw [ec]
        exact (All2.mapL (a2.mono fun _ _ r => (r.mono (.of e2)).mono en)).append (All2.mapL (a3.mono fun _ _ r => r.mono en))
  | none =>
    refine iteF ?_
    walk_at "go"
    rename_i fl Hl hn0 e0 hf0
    refine for_tup (K := K) (xs := onceL.map fun b => V.ref (onceA K b)) (fun i σ' H' => ∃ u ys, σ' = [some (.ref r), some (.str (dS pt)), some (.ref fl), u, none] ∧ H' fl = some (.lst ys) ∧ All2 (CL K pt) ((onceL.take i).flatMap fun o => twiceL.map fun w' => (some o, some w')) ys H' ∧ Ex H H' ∧ ys.length ≤ 7 * i)
      ⟨none, [], rfl, hf0, All2.nil, e0, by simp⟩ (fun i σ' H' _ _ => kn_ONCE T) (fun i x σ' H' hx hP => ?_) (fun σ' H' hP => ?_)
    · obtain ⟨u, ys, rfl, hf, a2, ex, hl⟩ := hP
      rw [List.getElem?_map] at hx
      obtain ⟨b, hb, rfl⟩ := Option.map_eq_some_iff.mp hx
      have hbm := List.mem_of_getElem? hb
      have hi : i < 4 := (List.getElem?_eq_some_iff.mp hb).1
      walk_at "go"
      refine lcT twiceL (c := fun b => V.ref (twiceA K b)) (R := fun j y H => CL K pt (some b, some j) y H) (sz 7 (by omega)) (kn_TWICE T) ⟨fun _ _ _ _ e h => h.mono e, fun j H' Qk hj e q => ?_⟩ fun D2 H2 zs hD2 e2 hz a3 => ?_
      · refine k_name ⟨rfl, ?_⟩
        walk_at "go"
        exact q _ _ (by assumption) ⟨_, rfl, by assumption⟩
      · have l2 : zs.length = 7 := a3.1
        walk_at "go"
        refine k_extend (e2 _ _ hf) hz (by omega) fun H3 en m3 h3 => ?_
        refine ⟨_, _, rfl, h3, ?_, Ex.mu2 (ex.trans e2) hn0 m3, by simp; omega⟩
        rw [List.take_succ, hb]
        simp only [Option.toList_some, List.flatMap_append, List.flatMap_cons, List.flatMap_nil, List.append_nil]
        exact (a2.mono fun _ _ r => (r.mono (.of e2)).mono en).append (All2.mapL (a3.mono fun _ _ r => r.mono en))
    · obtain ⟨u, ys, rfl, hf, a2, ex, hl⟩ := hP
      walk_at "go"
      refine q _ _ ex ⟨_, _, rfl, hf, ?_⟩
      have ec : casesOf R = onceL.flatMap fun o => twiceL.map fun w' => (some o, some w') := by simp [casesOf, hT]
      rw [ec]
      exact a2
theorem u_all_cases {r : Addr} {R : Rl} {pt : Bool} {H : Hp} {Q : VK} {E : XK} (hR : RuleI K H r R)
    (q : ∀ l ys H', Ex H H' → H' l = some (.lst ys) → All2 (CL K pt) (casesOf R) ys H' → Q (.ref l) H') : sp_all_cases K [.ref r, .str (dS pt)] H Q E :=
  ⟨(r, R, pt), rfl, hR, fun v H' e ⟨l, ys, ev, h, h'⟩ => ev ▸ q l ys H' e h h'⟩
local macro_rules | `(tactic| walk_at "st") => `(tactic| first
  | ((with_reducible refine' u_all_cases ?ha ?_); (case ha => walk_at "kn"); (refine' fun _ _ _ _ _ _ => ?_)))
/-! need_case -/
def sp_need_case (K : PySem.W.Frag) : Sp := SV (fun i : Addr × Addr × Rl × Bool × Option Br × Option Br => [.ref i.1, .ref i.2.1])
  (fun i H => RuleI K H i.1 i.2.2.1 ∧ CaseAt K H i.2.1 i.2.2.2.1 i.2.2.2.2.1 i.2.2.2.2.2 ∧ (i.2.2.2.2.1, i.2.2.2.2.2) ∈ casesOf i.2.2.1) fun _ => .non
theorem ok_need_case (T : TX K mg) : Ok P w K mg base 5 (He.ga K "need_case") ["rule", "case"] (sp_need_case K) := by
  obtain ⟨fd, F⟩ := T.F_need_case
  obtain ⟨_, G_Case_eq, b_Case_eq, k_Case_eq⟩ := ok_Case_eq (P := P) (w := w) (base := base) T
  obtain ⟨_, G_all_cases, b_all_cases, k_all_cases⟩ := ok_all_cases (P := P) (w := w) (base := base) T
  refine ⟨fd, okN F sc_need_case (by first | exact SV.len (fun _ => rfl) | exact PR.len (fun _ => rfl) | exact SJ.len (fun _ => rfl) | exact spEqB_len) (fun cdv A outer s H vs Q E hr h => ?_), F.bindsN (fun _ _ _ _ _ _ us hl => match us, hl with | [_, _], _ => rfl), F.kp⟩
  obtain ⟨⟨r, a, R, pt, o, w'⟩, rfl, ⟨hR, hC, hm⟩, q⟩ := h
  dsimp only at hR hC hm q
  have cd := hC.d
  refine ⟨_, (pss_cons (ps_if (PW.pt (pw_or (pt_not (pt_val (pe_callB (call_isi) (by rfl) T.n_isinstance (by decide +kernel) (pa_cons (pv 1) (pa_cons (pe_glob (v := .ref (He.ga K "Case")) (by rfl) T.g_Case rfl) pa_nil))))) (pw_or (pt_not (pt_val (pe_callB (call_isi) (by rfl) T.n_isinstance (by decide +kernel) (pa_cons (pe_fld (pv 1) rfl) (pa_cons (pe_bltn (v := .ty "str") (by rfl) T.n_str (by decide +kernel) rfl) pa_nil))))) (pw_or1 (pt_cmpR op_notIn_seq (pe_fld (pv 1) rfl) (pe_glob (v := .ref (He.ga K "DEEDS")) (by rfl) T.g_DEEDS rfl) rfl))))) pss_never pss_nil)
      (pss_one (ps_if (pt_cmpR (op_notInB (eqB_ins G_Case_eq dcase_ins dcase_same T.eqF.1 T.eqF.2 b_Case_eq) (hr.mono (by decide))) (pv 1) (pe_call G_all_cases (hr.mono (by decide)) (by rfl) T.g_all_cases k_all_cases b_all_cases .nil pass0 (pa_cons (pv 0) (pa_cons (pe_fld (pv 1) rfl) pa_nil))) rfl) pss_never pss_nil))), ?_⟩
  walk_at "run"
  refine k_notInCases (by assumption) (by assumption) (by walk_at "kn") hm fun H' e => ?_
  walk_at "go"
  refine q _ ?_
  walk_at "ex"
theorem u_need_case {r a : Addr} {R : Rl} {pt : Bool} {o w' : Option Br} {H : Hp} {Q : VK} {E : XK} (hR : RuleI K H r R) (hC : CaseAt K H a pt o w') (hm : (o, w') ∈ casesOf R) (q : ∀ H', Ex H H' → Q .non H') : sp_need_case K [.ref r, .ref a] H Q E :=
  ⟨(r, a, R, pt, o, w'), rfl, ⟨hR, hC, hm⟩, q⟩
local macro_rules | `(tactic| walk_at "st") => `(tactic| first
  | ((with_reducible refine' u_need_case ?ha ?hb ?hc ?_); (case ha => walk_at "kn"); (case hb => walk_at "kn"); (case hc => assumption); (refine' fun _ _ => ?_)))
theorem u_tests_in {r a : Addr} {R : Rl} {pt : Bool} {o w' : Option Br} {H : Hp} {Q : VK} {E : XK} (hR : RuleI K H r R) (hC : CaseAt K H a pt o w') (hm : ∀ b, o = some b → b ≠ .ff ∧ b ≠ .fs)
    (q : ∀ l ts H', Ex H H' → H' l = some (.tup ts) → All2 (TL K) (testsT R pt o w') ts H' → Q (.ref l) H') : sp_tests_in K [.ref r, .ref a] H Q E :=
  ⟨(r, a, R, pt, o, w'), rfl, ⟨hR, hC, hm⟩, fun v H' e ⟨l, ts, ev, h, h'⟩ => ev ▸ q l ts H' e h h'⟩
local macro_rules | `(tactic| walk_at "st") => `(tactic| first
  | ((with_reducible refine' u_tests_in ?ha ?hb ?hc ?_); (case ha => walk_at "kn"); (case hb => walk_at "kn"); (case hc => assumption); (refine' fun _ _ _ _ _ _ => ?_)))
/-! numbers_break -/
theorem u_Test_call {a n : Addr} {ps xs : List Int} {b : Int} {H : Hp} {Q : VK} {E : XK} (h1 : TestAt K H a ps b) (h2 : SqT K H n (xs.map V.int)) (hl : xs.length = ps.length) (q : ∀ H', Ex H H' → Q (.bl (decide (b ≤ dot ps xs))) H') : sp_Test_call K [.ref a, .ref n] H Q E := ⟨(a, n, ps, b, xs), rfl, ⟨h1, h2, hl⟩, q⟩
local macro_rules | `(tactic| walk_at "st") => `(tactic| first
  | ((with_reducible refine' k_callI0  ?_)))
local macro_rules | `(tactic| walk_at "st") => `(tactic| first
  | ((with_reducible refine' k_callI1  ?_)))
def sp_numbers_break (K : PySem.W.Frag) : Sp := SV (fun i : Addr × Addr × Addr × Rl × Bool × Option Br × Option Br × List Int => [.ref i.1, .ref i.2.1, .ref i.2.2.1])
  (fun i H => RuleI K H i.1 i.2.2.2.1 ∧ CaseAt K H i.2.1 i.2.2.2.2.1 i.2.2.2.2.2.1 i.2.2.2.2.2.2.1 ∧ (i.2.2.2.2.2.1, i.2.2.2.2.2.2.1) ∈ casesOf i.2.2.2.1 ∧ SqT K H i.2.2.1 (i.2.2.2.2.2.2.2.map V.int) ∧ i.2.2.2.2.2.2.2.length = if has3 i.2.2.2.2.2.2.1 then 3 else 4)
  fun i => .bl (holds (testsT i.2.2.2.1 i.2.2.2.2.1 i.2.2.2.2.2.1 i.2.2.2.2.2.2.1) i.2.2.2.2.2.2.2)
theorem ok_numbers_break (T : TX K mg) : Ok P w K mg base 11 (He.ga K "numbers_break") ["rule", "case", "numbers"] (sp_numbers_break K) := by
  obtain ⟨fd, F⟩ := T.F_numbers_break
  obtain ⟨_, G_need_weight_rule, b_need_weight_rule, k_need_weight_rule⟩ := ok_need_weight_rule (P := P) (w := w) (base := base) T
  obtain ⟨_, G_need_case, b_need_case, k_need_case⟩ := ok_need_case (P := P) (w := w) (base := base) T
  obtain ⟨_, G_has_three, b_has_three, k_has_three⟩ := ok_has_three (P := P) (w := w) (base := base) T
  obtain ⟨_, G_is_integer, b_is_integer, k_is_integer⟩ := ok_is_integer (P := P) (w := w) (base := base) T
  obtain ⟨_, G_tests_in, b_tests_in, k_tests_in⟩ := ok_tests_in (P := P) (w := w) (base := base) T
  obtain ⟨_, G_Test_call, b_Test_call, k_Test_call⟩ := ok_Test_call (P := P) (w := w) (base := base) T
  refine ⟨fd, okN F sc_numbers_break (by first | exact SV.len (fun _ => rfl) | exact PR.len (fun _ => rfl) | exact SJ.len (fun _ => rfl) | exact spEqB_len) (fun cdv A outer s H vs Q E hr h => ?_), F.bindsN (fun _ _ _ _ _ _ us hl => match us, hl with | [_, _, _], _ => rfl), F.kp⟩
  obtain ⟨⟨r, a, n, R, pt, o, w', xs⟩, rfl, ⟨hR, hC, hm, hS, hl⟩, q⟩ := h
  dsimp only at hR hC hm hS hl q
  have ho : ∀ b, o = some b → b ≠ .ff ∧ b ≠ .fs := fun b e => (onceL_not (casesOf_once hm b e)).2
  refine ⟨_, (pss_cons (ps_expr (pe_call G_need_weight_rule (hr.mono (by decide)) (by rfl) T.g_need_weight_rule k_need_weight_rule b_need_weight_rule .nil pass0 (pa_cons (pv 0) pa_nil)))
      (pss_cons (ps_expr (pe_call G_need_case (hr.mono (by decide)) (by rfl) T.g_need_case k_need_case b_need_case .nil pass0 (pa_cons (pv 0) (pa_cons (pv 1) pa_nil))))
      (pss_cons (ps_if (PW.pt (pw_or (pt_not (pt_val (pe_callB (call_isi) (by rfl) T.n_isinstance (by decide +kernel) (pa_cons (pv 2) (pa_cons (pe_bltn (v := .ty "tuple") (by rfl) T.n_tuple (by decide +kernel) rfl) pa_nil))))) (pw_or1 (pt_cmpR op_ne (pe_callB (c_lenS) (by rfl) T.n_len (by decide +kernel) (pa_cons (pv 2) pa_nil)) (pe_ifExp (pt_val (pe_call G_has_three (hr.mono (by decide)) (by rfl) T.g_has_three k_has_three b_has_three .nil pass0 (pa_cons (pv 1) pa_nil))) pe_int pe_int) (nomark _))))) (pss_one (ps_ret pe_bl)) pss_nil)
      (pss_cons (ps_if (pt_not (pt_val (pe_callB (cr_all rfl) (by rfl) T.n_all (by decide +kernel) (pa_cons (pe_lc (own := [("number", 4)]) (by rfl) sc_numbers_break.nd (pi_tup (pv 2)) (blkOk_by (by rfl)) (fun _ _ _ _ _ => pg_name (i := 4) sc_numbers_break.nd rfl (by first | exact Or.inl rfl | exact Or.inr rfl)) (fun _ _ _ _ _ => pts_nil) (fun _ _ _ _ _ => (pe_call G_is_integer (hr.mono (by decide)) (by rfl) T.g_is_integer k_is_integer b_is_integer .nil pass0 (pa_cons (pv 4) pa_nil)))) pa_nil)))) (pss_one (ps_ret pe_bl)) pss_nil)
      (pss_one (ps_ret (pe_callB (cr_all rfl) (by rfl) T.n_all (by decide +kernel) (pa_cons (pe_lc (own := [("test", 3)]) (by rfl) sc_numbers_break.nd (pi_tup (pe_call G_tests_in (hr.mono (by decide)) (by rfl) T.g_tests_in k_tests_in b_tests_in .nil pass0 (pa_cons (pv 0) (pa_cons (pv 1) pa_nil)))) (blkOk_by (by rfl)) (fun _ _ _ _ _ => pg_name (i := 3) sc_numbers_break.nd rfl (by first | exact Or.inl rfl | exact Or.inr rfl)) (fun _ _ _ _ _ => pts_nil) (fun _ _ _ _ _ => (pe_callI K rfl (pv 3) T.callO G_Test_call b_Test_call (hr.mono (by decide)) pass0 (pa_cons (pv 2) pa_nil)))) pa_nil)))))))), ?_⟩
  walk_at "run"
  cases h3 : has3 w' with
  | true =>
    rw [h3] at hl
    have hl : xs.length = 3 := hl
    refine iteT ?_
    walk_at "go"
    refine lcT xs (c := V.int) (R := fun j y _ => y = .bl true) (sz _ (by omega)) (by walk_at "kn") ⟨fun _ _ _ _ _ h => h, fun j H' Qk hj e q => ?_⟩ fun D H1 ys hD e hy a2 => ?_
    · refine k_name ⟨rfl, ?_⟩
      walk_at "go"
      exact q _ _ (by assumption) rfl
    · have hys := a2.map
      subst hys
      walk_at "go"
      refine k_all1 xs (SqL.of hy) ?_
      walk_at "go"
      rename_i lt ts H2 e2 ht a3
      have hz : (((testsT R pt o w').zip ts).map Prod.snd) = ts := zip_snd_all a3.1
      have hlen : ts.length < 1000 := by
        have := (testsT_small R pt o w')
        have := a3.1
        omega
      refine lcT ((testsT R pt o w').zip ts) (c := Prod.snd) (R := fun j y _ => y = .bl (decide (j.1.2 ≤ dot j.1.1 xs))) (sz _ (by rw [List.length_zip]; omega)) (by rw [hz]; exact SqT.of ht) ⟨fun _ _ _ _ _ h => h, fun j H' Qk hj e q => ?_⟩ fun D H3 ys hD e3 hy a4 => ?_
      · obtain ⟨ta, et, tt⟩ := a3.zip_mem hj
        have hjl := testsT_len ho _ (List.of_mem_zip hj).1
        rw [h3] at hjl
        have hjl : j.1.1.length = 3 := hjl
        obtain ⟨dx, fs, hdx, _⟩ := tt.c
        rw [et]
        refine k_name ⟨rfl, ?_⟩
        walk_at "go"
        refine k_callI ⟨dx, fs, by walk_at "kn"⟩ (u_Test_call (b := j.1.2) (ps := j.1.1) (xs := xs) (by walk_at "kn") (by walk_at "kn") (by omega) fun H' e => ?_)
        exact q _ _ e rfl
      · have hys := a4.map
        subst hys
        walk_at "go"
        refine k_all (((testsT R pt o w').zip ts).map fun j => decide (j.1.2 ≤ dot j.1.1 xs)) ?_ ?_
        · rw [List.map_map]
          exact SqL.of hy
        · have ea : (((testsT R pt o w').zip ts).map fun j => decide (j.1.2 ≤ dot j.1.1 xs)).all id = holds (testsT R pt o w') xs := zip_all a3.1
          rw [ea]
          refine q _ ?_
          walk_at "ex"
  | false =>
    rw [h3] at hl
    have hl : xs.length = 4 := hl
    refine iteF ?_
    walk_at "go"
    refine lcT xs (c := V.int) (R := fun j y _ => y = .bl true) (sz _ (by omega)) (by walk_at "kn") ⟨fun _ _ _ _ _ h => h, fun j H' Qk hj e q => ?_⟩ fun D H1 ys hD e hy a2 => ?_
    · refine k_name ⟨rfl, ?_⟩
      walk_at "go"
      exact q _ _ (by assumption) rfl
    · have hys := a2.map
      subst hys
      walk_at "go"
      refine k_all1 xs (SqL.of hy) ?_
      walk_at "go"
      rename_i lt ts H2 e2 ht a3
      have hz : (((testsT R pt o w').zip ts).map Prod.snd) = ts := zip_snd_all a3.1
      have hlen : ts.length < 1000 := by
        have := (testsT_small R pt o w')
        have := a3.1
        omega
      refine lcT ((testsT R pt o w').zip ts) (c := Prod.snd) (R := fun j y _ => y = .bl (decide (j.1.2 ≤ dot j.1.1 xs))) (sz _ (by rw [List.length_zip]; omega)) (by rw [hz]; exact SqT.of ht) ⟨fun _ _ _ _ _ h => h, fun j H' Qk hj e q => ?_⟩ fun D H3 ys hD e3 hy a4 => ?_
      · obtain ⟨ta, et, tt⟩ := a3.zip_mem hj
        have hjl := testsT_len ho _ (List.of_mem_zip hj).1
        rw [h3] at hjl
        have hjl : j.1.1.length = 4 := hjl
        obtain ⟨dx, fs, hdx, _⟩ := tt.c
        rw [et]
        refine k_name ⟨rfl, ?_⟩
        walk_at "go"
        refine k_callI ⟨dx, fs, by walk_at "kn"⟩ (u_Test_call (b := j.1.2) (ps := j.1.1) (xs := xs) (by walk_at "kn") (by walk_at "kn") (by omega) fun H' e => ?_)
        exact q _ _ e rfl
      · have hys := a4.map
        subst hys
        walk_at "go"
        refine k_all (((testsT R pt o w').zip ts).map fun j => decide (j.1.2 ≤ dot j.1.1 xs)) ?_ ?_
        · rw [List.map_map]
          exact SqL.of hy
        · have ea : (((testsT R pt o w').zip ts).map fun j => decide (j.1.2 ≤ dot j.1.1 xs)).all id = holds (testsT R pt o w') xs := zip_all a3.1
          rw [ea]
          refine q _ ?_
          walk_at "ex"

end
end M
namespace M
open PySem PySem.Spec PyProof.Rows L2 Evl
local macro_rules | `(tactic| walk_at "ar") => `(tactic| first | exact rfl | omega | (simp only [List.length_map, List.length_cons, List.length_nil] at *; omega) | decide)
local macro_rules | `(tactic| walk_at "ex") => `(tactic| first | with_reducible assumption | exact Ex.refl _ | (refine' Ex.trans ?a ?b; (case b => with_reducible assumption); (case a => walk_at "ex")) | (refine' Ex.mu2 ?a ?n ?b; (case b => with_reducible assumption); (case n => with_reducible assumption); (case a => walk_at "ex")))
local macro_rules | `(tactic| walk_at "exn") => `(tactic| first | with_reducible assumption | exact ExN.refl _ | (refine' ExN.trans ?a (ExN.of ?b); (case b => with_reducible assumption); (case a => walk_at "exn")) | (refine' ExN.trans ?a ?b; (case b => with_reducible assumption); (case a => walk_at "exn")))
local macro_rules | `(tactic| walk_at "ln") => `(tactic| first | exact rfl | omega | (simp only [scaleF, addF, List.length_map, List.length_zip, List.length_cons, List.length_nil] <;> omega))
local macro_rules | `(tactic| walk_at "kn") => `(tactic| first
  | with_reducible assumption
  | ((with_reducible refine' Fld.mono ?e ?m); (case e => with_reducible assumption); (case m => walk_at "kn"))
  | ((with_reducible refine' Ins.mono ?e ?m); (case e => with_reducible assumption); (case m => walk_at "kn"))
  | ((with_reducible refine' SqT.of ?m); (case m => walk_at "kn"))
  | ((with_reducible refine' SqL.of ?m); (case m => walk_at "kn"))
  | with_reducible exact kn_DEEDS (by assumption)
  | with_reducible exact kn_INNER (by assumption)
  | with_reducible exact kn_ONCE (by assumption)
  | with_reducible exact kn_TWICE (by assumption)
  | ((with_reducible refine' RB.mono ?e ?m); (case e => with_reducible assumption); (case m => walk_at "kn"))
  | ((with_reducible refine' RuleI.mono ?e ?m); (case e => with_reducible assumption); (case m => walk_at "kn"))
  | ((with_reducible refine' TestAt.mono ?e ?m); (case e => with_reducible assumption); (case m => walk_at "kn"))
  | ((with_reducible refine' TO_mono ?e ?m); (case e => with_reducible assumption); (case m => walk_at "kn"))
  | ((with_reducible refine' CaseAt.mono ?e ?m); (case e => with_reducible assumption); (case m => walk_at "kn"))
  | ((with_reducible refine' LT.fair ?e ?m); (case e => with_reducible assumption); (case m => with_reducible assumption))
  | ((with_reducible refine' LT.turn ?e ?m); (case e => with_reducible assumption); (case m => with_reducible assumption))
  | ((with_reducible refine' FormsB.mono ?e ?m); (case e => with_reducible assumption); (case m => walk_at "kn"))
  | ((with_reducible refine' tl_mono ?e ?m); (case e => with_reducible assumption); (case m => walk_at "kn"))
  | ((with_reducible refine' ExN.t ?e ?m); (case e => with_reducible assumption); (case m => walk_at "kn"))
  | ((with_reducible refine' ExN.fld ?e ?m); (case e => with_reducible assumption); (case m => walk_at "kn"))
  | ((with_reducible refine' ExN.ins ?e ?m); (case e => with_reducible assumption); (case m => walk_at "kn"))
  | ((with_reducible refine' RuleI.monoN ?e ?m); (case e => with_reducible assumption); (case m => walk_at "kn"))
  | ((with_reducible refine' TestAt.monoN ?e ?m); (case e => with_reducible assumption); (case m => walk_at "kn"))
  | ((with_reducible refine' CaseAt.monoN ?e ?m); (case e => with_reducible assumption); (case m => walk_at "kn"))
  | ((with_reducible refine' FormsB.monoN ?e ?m); (case e => with_reducible assumption); (case m => walk_at "kn"))
  | ((with_reducible refine' tl_monoN ?e ?m); (case e => with_reducible assumption); (case m => walk_at "kn"))
  | ((with_reducible refine' LT.mono ?e ?m); (case e => with_reducible assumption); (case m => walk_at "kn"))
  | ((with_reducible refine' PairI.mono ?e ?m); (case e => with_reducible assumption); (case m => walk_at "kn"))
  | ((with_reducible refine' ex_t ?e ?m); (case e => with_reducible assumption); (case m => walk_at "kn"))
  | ((with_reducible refine' ex_l ?e ?m); (case e => with_reducible assumption); (case m => walk_at "kn"))
  | ((with_reducible refine' Ex.at ?e ?m); (case e => with_reducible assumption); (case m => walk_at "kn"))
  | ((with_reducible refine' Mu.t ?e ?n ?m); (case e => with_reducible assumption); (case n => with_reducible assumption); (case m => walk_at "kn"))
  | ((with_reducible refine' Mu.lst ?e ?n ?m); (case e => with_reducible assumption); (case n => with_reducible assumption); (case m => walk_at "kn"))
  | ((with_reducible refine' Mu.fld ?e ?n ?m); (case e => with_reducible assumption); (case n => with_reducible assumption); (case m => walk_at "kn")))
local macro_rules | `(tactic| walk_at "st") => `(tactic| first
  | with_reducible refine k_seq ?_
  | with_reducible refine k_asg ?_
  | with_reducible refine k_ret ?_
  | with_reducible refine k_drop ?_
  | with_reducible refine k_ifS ?_
  | with_reducible refine k_name ?_
  | with_reducible refine k_next ?_
  | ((with_reducible refine' k_var ?hv ?_); case hv => exact rfl)
  | with_reducible refine k_c ?_
  | with_reducible refine k_fld ?_
  | ((with_reducible refine' k_fld2 ?hv ?_); case hv => walk_at "kn")
  | with_reducible refine k_op ?_
  | with_reducible refine k_un ?_
  | with_reducible refine k_add ?_
  | with_reducible refine k_sub ?_
  | with_reducible refine k_neg ?_
  | ((with_reducible refine' k_mul ?hv ?_); case hv => first | (left; constructor <;> omega) | (right; constructor <;> omega))
  | ((with_reducible refine' k_fdiv ?hv ?_); case hv => constructor <;> omega)
  | ((with_reducible refine' k_mod ?hv ?_); case hv => omega)
  | with_reducible refine k_lt ?_
  | with_reducible refine k_le ?_
  | with_reducible refine k_gt ?_
  | with_reducible refine k_ge ?_
  | with_reducible refine k_eqI ?_
  | with_reducible refine k_eqT ?_
  | with_reducible refine k_neI ?_
  | with_reducible refine k_isN_int ?_
  | with_reducible refine k_isN_ref ?_
  | with_reducible refine k_isN_non ?_
  | with_reducible refine k_notN_int ?_
  | with_reducible refine k_notN_ref ?_
  | with_reducible refine k_notN_non ?_
  | with_reducible refine k_test ?_
  | with_reducible refine k_B ?_
  | with_reducible refine k_bx ?_
  | with_reducible refine k_not ?_
  | with_reducible refine k_notV ?_
  | with_reducible refine k_and ?_
  | with_reducible refine k_or ?_
  | with_reducible refine k_andV ?_
  | with_reducible refine k_orV ?_
  | with_reducible refine k_if ?_
  | with_reducible refine k_chain ?_
  | with_reducible refine iteT ?_
  | with_reducible refine iteF ?_
  | with_reducible refine k_nil ?_
  | with_reducible refine k_cons ?_
  | with_reducible refine k_tup ?_
  | with_reducible refine k_lst ?_
  | with_reducible refine k_call ?_
  | with_reducible refine k_meth ?_
  | ((with_reducible refine' k_meth2 ?hv ?_); case hv => walk_at "kn")
  | with_reducible refine k_make ?_
  | with_reducible refine k_cb ?_
  | with_reducible refine k_min2 ?_
  | with_reducible refine k_max2 ?_
  | with_reducible refine k_int1 ?_
  | with_reducible refine k_int1b ?_
  | with_reducible refine k_abs1 ?_
  | ((with_reducible refine' k_gtup ?hv ?hw ?_); (case hv => walk_at "kn"); (case hw => rfl))
  | with_reducible refine k_gcons ?_
  | with_reducible refine k_gnil ?_
  | with_reducible refine k_isi_ii ?_
  | with_reducible refine k_isi_ib ?_
  | with_reducible refine k_isi_ss ?_
  | ((with_reducible refine' k_isi_tt ?hv ?_); case hv => walk_at "kn")
  | with_reducible refine iteNT ?_
  | with_reducible refine iteNF ?_
  | with_reducible refine k_cval ?_
  | ((with_reducible refine' k_cval2 ?hv ?_); case hv => exact kn_most (by assumption))
  | with_reducible refine k_lc ?_
  | with_reducible refine k_iT ?_
  | ((with_reducible refine' k_iT2 ?hv ?_); case hv => walk_at "kn")
  | with_reducible refine k_iL ?_
  | ((with_reducible refine' k_iL2 ?hv ?_); case hv => walk_at "kn")
  | with_reducible refine k_i1 ?_
  | ((with_reducible refine' k_i1a ?hv ?_); case hv => constructor <;> omega)
  | with_reducible refine k_i2 ?_
  | ((with_reducible refine' k_i2a ?hv ?_); case hv => refine ⟨?_, ?_, ?_, ?_⟩ <;> omega)
  | with_reducible refine k_iZ ?_
  | ((with_reducible refine' k_iZa ?hv ?hw ?_); (case hv => walk_at "kn"); (case hw => walk_at "kn"))
  | with_reducible refine k_iN ?_
  | ((with_reducible refine' k_lenT ?hv ?_); case hv => walk_at "kn")
  | ((with_reducible refine' k_lenL ?hv ?_); case hv => walk_at "kn")
  | ((with_reducible refine' k_ixT ?hv ?hw ?_); (case hv => walk_at "kn"); (case hw => rfl))
  | ((with_reducible refine' k_tupL ?hv ?_); (case hv => walk_at "kn"); (refine' fun _ _ _ _ _ => ?_))
  | ((with_reducible refine' k_tupT ?hv ?_); (case hv => walk_at "kn"))
  | ((with_reducible refine' k_new ?hv ?_); (case hv => (simp only [List.length_cons, List.length_nil]; exact sze _ (by omega))); (refine' fun _ _ _ _ _ => ?_))
  | ((with_reducible refine' k_isiW ?hT ?hv ?_); (case hT => assumption); (case hv => walk_at "kn"))
  | ((with_reducible refine' k_isiT ?hT ?hv ?_); (case hT => assumption); (case hv => walk_at "kn"))
  | ((with_reducible refine' k_isiC ?hT ?hv ?_); (case hT => assumption); (case hv => walk_at "kn"))
  | ((with_reducible refine' k_isiLT ?hv ?hw ?_); (case hv => walk_at "kn"); (case hw => walk_at "kn"))
  | ((with_reducible refine' k_isN_TO ?hv ?_); (case hv => walk_at "kn"))
  | ((with_reducible refine' k_notN_TO ?hv ?_); (case hv => walk_at "kn"))
  | ((with_reducible refine' k_notInDeeds ?hv ?_); (case hv => walk_at "kn"))
  | with_reducible refine k_eqPut ?_
  | ((refine' k_eqB .inn ?hv ?hw ?hx ?_); (case hv => walk_at "kn"); (case hw => walk_at "kn"); (case hx => rfl))
  | ((refine' k_eqB .lf ?hv ?hw ?hx ?_); (case hv => walk_at "kn"); (case hw => walk_at "kn"); (case hx => rfl))
  | ((refine' k_eqB .ls ?hv ?hw ?hx ?_); (case hv => walk_at "kn"); (case hw => walk_at "kn"); (case hx => rfl))
  | ((refine' k_eqB .ff ?hv ?hw ?hx ?_); (case hv => walk_at "kn"); (case hw => walk_at "kn"); (case hx => rfl))
  | ((refine' k_eqB .fs ?hv ?hw ?hx ?_); (case hv => walk_at "kn"); (case hw => walk_at "kn"); (case hx => rfl))
  | ((refine' k_eqB .tf ?hv ?hw ?hx ?_); (case hv => walk_at "kn"); (case hw => walk_at "kn"); (case hx => rfl))
  | ((with_reducible refine' k_yes ?hv ?_); (case hv => walk_at "ar"))
  | ((with_reducible refine' k_no ?hv ?_); (case hv => walk_at "ar"))
  | ((with_reducible refine' k_nyes ?hv ?_); (case hv => walk_at "ar"))
  | ((with_reducible refine' k_nno ?hv ?_); (case hv => walk_at "ar"))
  | with_reducible refine k_sfld ?_
  | ((with_reducible refine' k_ixL ?hv ?hw ?_); (case hv => walk_at "kn"); (case hw => rfl))
  | ((with_reducible refine' k_sumTu _ ?hv ?_); (case hv => walk_at "kn"))
  | ((with_reducible refine' u_is_integer  ?_); (refine' fun _ _ => ?_))
  | ((with_reducible refine' u_over ?ha ?_); (case ha => constructor <;> omega); (refine' fun _ _ => ?_))
  | ((with_reducible refine' u_is_within ?ha ?_); (case ha => constructor <;> omega); (refine' fun _ _ => ?_))
  | ((with_reducible refine' u_need_plus ?ha ?_); (case ha => constructor <;> omega); (refine' fun _ _ => ?_))
  | ((with_reducible refine' u_need_weight ?ha ?_); (case ha => constructor <;> omega); (refine' fun _ _ => ?_))
  | ((with_reducible refine' u_is_times ?ha ?hb ?_); (case ha => walk_at "kn"); (case hb => refine ⟨⟨?_, ?_⟩, ?_, ?_⟩ <;> omega); (refine' fun _ _ => ?_))
  | ((with_reducible refine' u_beside ?ha ?_); (case ha => walk_at "kn"); (refine' fun _ _ => ?_))
  | ((with_reducible refine' u_greatest ?ha ?hb ?_); (case ha => walk_at "kn"); (case hb => constructor <;> omega); (refine' fun _ _ => ?_))
  | ((with_reducible refine' u_need_weight_rule ?ha ?_); (case ha => walk_at "kn"); (refine' fun _ _ => ?_))
  | ((with_reducible refine' u_need_deed  ?_); (refine' fun _ _ => ?_))
  | ((with_reducible refine' u_has_three ?ha ?_); (case ha => walk_at "kn"); (refine' fun _ _ => ?_))
  | ((with_reducible refine' u_scaled ?ha ?hb ?_); (case ha => walk_at "kn"); (case hb => refine ⟨⟨?_, ?_⟩, ?_⟩ <;> (walk_at "ln")); (refine' fun _ _ _ _ => ?_))
  | ((with_reducible refine' u_added ?ha ?hb ?hc ?_); (case ha => walk_at "kn"); (case hb => walk_at "kn"); (case hc => constructor <;> (walk_at "ln")); (refine' fun _ _ _ _ => ?_))
  | ((with_reducible refine' u_amount ?ha ?hb ?hc ?_); (case ha => walk_at "kn"); (case hb => walk_at "kn"); (case hc => assumption); (refine' fun _ _ => ?_))
  | ((with_reducible refine' u_mk_Test ?ha ?hb ?_); (case ha => walk_at "kn"); (case hb => assumption); (refine' fun _ _ _ _ => ?_))
  | ((with_reducible refine' k_eq1st  ?_))
  | ((with_reducible refine' u_heavy_form ?ha ?_); (case ha => walk_at "kn"); (refine' fun _ _ _ _ => ?_))
  | ((with_reducible refine' u_sides ?ha ?hb ?_); (case ha => walk_at "kn"); (case hb => assumption); (refine' fun _ _ _ _ _ _ _ _ => ?_))
  | ((with_reducible refine' u_fair_tests ?ha ?hb ?hc ?hd ?_); (case ha => walk_at "kn"); (case hb => walk_at "kn"); (case hc => walk_at "kn"); (case hd => assumption); (refine' fun _ _ _ _ _ _ => ?_))
  | ((with_reducible refine' u_unfair_test ?ha ?hb ?hc ?hd ?_); (case ha => walk_at "kn"); (case hb => walk_at "kn"); (case hc => walk_at "kn"); (case hd => assumption); (refine' fun _ _ _ _ => ?_))
  | ((with_reducible refine' k_eq1st  ?_))
  | ((with_reducible refine' u_turn_tests ?ha ?hb ?_); (case ha => walk_at "kn"); (case hb => walk_at "kn"); (refine' fun _ _ _ _ _ _ => ?_))
  | ((with_reducible refine' u_break_test ?ha ?hb ?hc ?hd ?_); (case ha => walk_at "kn"); (case hb => walk_at "kn"); (case hc => walk_at "kn"); (case hd => assumption); (refine' fun _ _ _ _ => ?_))
  | ((with_reducible refine' k_ifv ?ha ?hb ?_); (case ha => exact rfl); (case hb => exact rfl))
  | ((with_reducible refine' k_apT ?ha ?hb ?hc ?_); (case ha => walk_at "kn"); (case hb => omega); (case hc => first | with_reducible assumption | (with_reducible exact TL.mk2 (by assumption)) | (with_reducible exact TL.mk (by assumption))); (refine' fun _ _ _ _ => ?_))
  | ((with_reducible refine' k_exT ?ha ?hb ?hc ?_); (case ha => walk_at "kn"); (case hb => walk_at "kn"); (case hc => omega); (refine' fun _ _ _ _ => ?_))
  | ((with_reducible refine' k_bm  ?_))
  | ((with_reducible refine' k_bmL ?ha ?_); (case ha => walk_at "kn"))
  | ((with_reducible refine' k_tupLT ?ha ?_); (case ha => walk_at "kn"); (refine' fun _ _ _ _ _ _ => ?_))
  | ((with_reducible refine' u_mk_Case ?ha ?hb ?_); (case ha => walk_at "kt"); (case hb => walk_at "kt"); (refine' fun _ _ _ _ => ?_))
  | ((with_reducible refine' k_bmL1 ?ha ?_); (case ha => walk_at "kn"))
  | ((with_reducible refine' k_for  ?_))
  | ((with_reducible refine' u_all_cases ?ha ?_); (case ha => walk_at "kn"); (refine' fun _ _ _ _ _ _ => ?_))
  | ((with_reducible refine' u_need_case ?ha ?hb ?hc ?_); (case ha => walk_at "kn"); (case hb => walk_at "kn"); (case hc => assumption); (refine' fun _ _ => ?_))
  | ((with_reducible refine' u_tests_in ?ha ?hb ?hc ?_); (case ha => walk_at "kn"); (case hb => walk_at "kn"); (case hc => assumption); (refine' fun _ _ _ _ _ _ => ?_))
  | ((with_reducible refine' k_callI0  ?_))
  | ((with_reducible refine' k_callI1  ?_)))
local macro_rules | `(tactic| walk_at "go") => `(tactic| repeat (walk_at "st"))
local macro_rules | `(tactic| walk_at "run") => `(tactic| (dsimp only [cxK]; walk_at "go"))

section
variable {P : Program} {w : World} {K : PySem.W.Frag} {mg : Str → Option Value} {base : Heap}
local macro_rules | `(tactic| walk_at "st") => `(tactic| first
  | ((with_reducible refine' k_gfld  ?_)))
/-! Pair -/
structure PairI (K : PySem.W.Frag) (H : Hp) (a : Addr) (R : Rl) (l h : Int) : Prop where
  ok : R.Ok
  rule : ∃ r, Fld K H a "rule" (.ref r) ∧ RuleI K H r R
  p : Fld K H a "p" (.int R.p)
  q : Fld K H a "q" (.int R.q)
  more : Fld K H a "more" (.int (R.k + 1))
  light : Fld K H a "light" (.int l)
  heavy : Fld K H a "heavy" (.int h)
  ms : ∃ dx fs, H a = some (.ins (He.ga K "Pair") dx fs) ∧ ∀ m : Str, m = "inner_stretch" ∨ m = "turned_stretch" ∨ m = "once_stretch" ∨ m = "near_stretch" ∨ m = "near_for" ∨ m = "stretch_of" ∨ m = "can_break" ∨ m = "numbers_for" → fs.lookup m = none
theorem PairI.mono {K : PySem.W.Frag} {H H' : Hp} {a : Addr} {R : Rl} {l h : Int} (e : Ex H H') (p : PairI K H a R l h) : PairI K H' a R l h where
  ok := p.ok
  rule := let ⟨r, h1, h2⟩ := p.rule; ⟨r, h1.mono e, h2.mono e⟩
  p := p.p.mono e
  q := p.q.mono e
  more := p.more.mono e
  light := p.light.mono e
  heavy := p.heavy.mono e
  ms := let ⟨dx, fs, h1, h2⟩ := p.ms; ⟨dx, fs, e _ _ h1, h2⟩
theorem PairI.ins {K : PySem.W.Frag} {H : Hp} {a : Addr} {R : Rl} {l h : Int} (p : PairI K H a R l h) {m : Str} (hm : m = "inner_stretch" ∨ m = "turned_stretch" ∨ m = "once_stretch" ∨ m = "near_stretch" ∨ m = "near_for" ∨ m = "stretch_of" ∨ m = "can_break" ∨ m = "numbers_for") : Ins H a (He.ga K "Pair") m :=
  let ⟨dx, fs, h1, h2⟩ := p.ms; ⟨dx, fs, h1, h2 m hm⟩
def sp_Pair_init (K : PySem.W.Frag) : Sp := SJ (He.ga K "Pair") (fun i : Addr × Int × Int × Rl => [.ref i.1, .int i.2.1, .int i.2.2.1]) (fun i H => RuleI K H i.1 i.2.2.2) fun i x H' => PairI K H' x i.2.2.2 i.2.1 i.2.2.1
theorem ok_Pair_init (T : TX K mg) : Ok P w K mg base 1 (He.ma K (He.ga K "Pair") "__init__") ["self", "rule", "light", "heavy"] (sp_Pair_init K) := by
  obtain ⟨fd, F⟩ := T.F_Pair_init
  refine ⟨fd, okN F sc_Pair_init (by first | exact SV.len (fun _ => rfl) | exact PR.len (fun _ => rfl) | exact SJ.len (fun _ => rfl) | exact spEqB_len) (fun cdv A outer s H vs Q E hr h => ?_), F.bindsN (fun _ _ _ _ _ _ us hl => match us, hl with | [_, _, _, _], _ => rfl), F.kp⟩
  obtain ⟨⟨r, l, hh, R⟩, x, dx, rfl, hx, hR, q⟩ := h
  dsimp only at hR q
  have nx := fld_ne hx hR.rb.k
  obtain ⟨⟨tp, r1, r2⟩, r3⟩ := hR.rb
  refine ⟨_, (pss_cons (ps_fld (pv 0) (pv 1) rfl)
      (pss_cons (ps_asg (pe_fld (pv 1) rfl) (pg_tupK K 2 rfl rfl (pgs_cons (pg_fld (pv 0)) (pgs_cons (pg_fld (pv 0)) pgs_nil)) rfl rfl))
      (pss_cons (ps_fld (pv 0) (pe_op op_add (pe_fld (pv 1) rfl) pe_int) rfl)
      (pss_cons (ps_fld (pv 0) (pv 2) rfl)
      (pss_one (ps_fld (pv 0) (pv 3) rfl)))))), ?_⟩
  walk_at "run"
  refine' k_sf ?ha1 T.c_Pair T.na_Pair_rule ?hb1 ?hc1
  case ha1 => walk_at "kn"
  case hb1 => exact (show 0 < 1000 by omega)
  refine' fun H1 m1 hx1 => ?_
  walk_at "go"
  refine' k_sf ?ha2 T.c_Pair T.na_Pair_p ?hb2 ?hc2
  case ha2 => walk_at "kn"
  case hb2 => exact (show 1 < 1000 by omega)
  refine' fun H2 m2 hx2 => ?_
  walk_at "go"
  refine' k_sf ?ha3 T.c_Pair T.na_Pair_q ?hb3 ?hc3
  case ha3 => walk_at "kn"
  case hb3 => exact (show 2 < 1000 by omega)
  refine' fun H3 m3 hx3 => ?_
  walk_at "go"
  refine' k_sf ?ha4 T.c_Pair T.na_Pair_more ?hb4 ?hc4
  case ha4 => walk_at "kn"
  case hb4 => exact (show 3 < 1000 by omega)
  refine' fun H4 m4 hx4 => ?_
  walk_at "go"
  refine' k_sf ?ha5 T.c_Pair T.na_Pair_light ?hb5 ?hc5
  case ha5 => walk_at "kn"
  case hb5 => exact (show 4 < 1000 by omega)
  refine' fun H5 m5 hx5 => ?_
  walk_at "go"
  refine' k_sf ?ha6 T.c_Pair T.na_Pair_heavy ?hb6 ?hc6
  case ha6 => walk_at "kn"
  case hb6 => exact (show 5 < 1000 by omega)
  refine' fun H6 m6 hx6 => ?_
  have m := m1.trans (m2.trans (m3.trans (m4.trans (m5.trans m6))))
  refine q _ m ⟨hR.ok, ⟨r, fld_of hx6 T.c_Pair T.na_Pair_rule rfl, m.rule hx nx hR⟩, fld_of hx6 T.c_Pair T.na_Pair_p rfl, fld_of hx6 T.c_Pair T.na_Pair_q rfl, fld_of hx6 T.c_Pair T.na_Pair_more rfl, fld_of hx6 T.c_Pair T.na_Pair_light rfl, fld_of hx6 T.c_Pair T.na_Pair_heavy rfl, _, _, hx6, ?_⟩
  rintro m (rfl | rfl | rfl | rfl | rfl | rfl | rfl | rfl) <;> rfl
theorem u_mk_Pair {F : Addr → Hp → Prop} {H : Hp} {E : XK} {r : Addr} {R : Rl} {l h : Int} (h1 : RuleI K H r R) (k : ∀ x H', Ex H H' → PairI K H' x R l h → F x H') :
    ∀ x dx, H x = none → H dx = none → dx ≠ x → sp_Pair_init K (.ref x :: [.ref r, .int l, .int h]) (upd (upd H dx (.own x)) x (.ins (He.ga K "Pair") dx [])) (fun v H2 => v = .non ∧ F x H2) E :=
  SJ.make (r, l, h, R) (fun H' e => h1.mono e) fun x H' e _ t => k x H' e t
/-- a pair of ints at hand -/
def St2 (K : PySem.W.Frag) (H : Hp) (t : Addr) (s : Int × Int) : Prop := SqT K H t [.int s.1, .int s.2]
def sp_Pair_inner_stretch (K : PySem.W.Frag) : Sp := PR (fun i : Addr × Rl × Int × Int => [.ref i.1]) (fun i H => PairI K H i.1 i.2.1 i.2.2.1 i.2.2.2) fun i _ v H' => ∃ t, v = .ref t ∧ SqT K H' t [.int (inS i.2.1 i.2.2.2).1, .int (inS i.2.1 i.2.2.2).2]
theorem ok_Pair_inner_stretch (T : TX K mg) : Ok P w K mg base 3 (He.ma K (He.ga K "Pair") "inner_stretch") ["self"] (sp_Pair_inner_stretch K) := by
  obtain ⟨fd, F⟩ := T.F_Pair_inner_stretch
  obtain ⟨_, G_over, b_over, k_over⟩ := ok_over (P := P) (w := w) (base := base) T
  refine ⟨fd, okN F sc_Pair_inner_stretch (by first | exact SV.len (fun _ => rfl) | exact PR.len (fun _ => rfl) | exact SJ.len (fun _ => rfl) | exact spEqB_len) (fun cdv A outer s H vs Q E hr h => ?_), F.bindsN (fun _ _ _ _ _ _ us hl => match us, hl with | [_], _ => rfl), F.kp⟩
  obtain ⟨⟨a, R, l, hh⟩, rfl, hP, q⟩ := h
  dsimp only at hP q
  obtain ⟨r, f1, hR⟩ := hP.rule
  have f2 := hP.p
  have f3 := hP.q
  have f4 := hP.heavy
  obtain ⟨⟨tp, r1, r2⟩, r3⟩ := hR.rb
  have q1 := hR.ok.q1
  have qp := hR.ok.qp
  have p6 := hR.ok.p6
  refine ⟨_, (pss_cons (ps_set (i := 1) sc_Pair_inner_stretch.nd rfl (Or.inl rfl) (pe_callB (c_max2 rfl) (by rfl) T.n_max (by decide +kernel) (pa_cons pe_int (pa_cons (pe_callTy (c_int1) (by rfl) T.n_int (by decide +kernel) (pa_cons (pe_call G_over (hr.mono (by decide)) (by rfl) T.g_over k_over b_over .nil pass0 (pa_cons (pe_op op_sub (pe_op op_mul (pe_fld (pv 0) rfl) (pe_fld (pv 0) rfl)) (pe_fld (pe_fld (pv 0) rfl) rfl)) (pa_cons (pe_op op_add (pe_fld (pv 0) rfl) (pe_fld (pv 0) rfl)) pa_nil))) pa_nil)) pa_nil))))
      (pss_cons (ps_set (i := 2) sc_Pair_inner_stretch.nd rfl (Or.inl rfl) (pe_callB (c_min2 rfl) (by rfl) T.n_min (by decide +kernel) (pa_cons (pe_op op_sub (pe_fld (pv 0) rfl) pe_int) (pa_cons (pe_callTy (c_int1) (by rfl) T.n_int (by decide +kernel) (pa_cons (pe_op op_fdivN (pe_op op_add (pe_op op_mul (pe_fld (pv 0) rfl) (pe_fld (pv 0) rfl)) (pe_fld (pe_fld (pv 0) rfl) rfl)) (pe_op op_add (pe_fld (pv 0) rfl) (pe_fld (pv 0) rfl))) pa_nil)) pa_nil))))
      (pss_one (ps_ret (pe_tup (pa_cons (pv 1) (pa_cons (pv 2) pa_nil))))))), ?_⟩
  walk_at "run"
  refine q _ _ ?_ ⟨_, rfl, ?_⟩
  · walk_at "ex"
  · exact SqT.of (by assumption)
theorem u_inner_stretch {a : Addr} {R : Rl} {l h : Int} {H : Hp} {Q : VK} {E : XK} (hP : PairI K H a R l h) (q : ∀ t H', Ex H H' → SqT K H' t [.int (inS R h).1, .int (inS R h).2] → Q (.ref t) H') : sp_Pair_inner_stretch K [.ref a] H Q E :=
  ⟨(a, R, l, h), rfl, hP, fun v H' e ⟨t, ev, h⟩ => ev ▸ q t H' e h⟩
local macro_rules | `(tactic| walk_at "st") => `(tactic| first
  | ((with_reducible refine' u_inner_stretch ?ha ?_); (case ha => walk_at "kn"); (refine' fun _ _ _ _ => ?_)))
def sp_Pair_turned_stretch (K : PySem.W.Frag) : Sp := PR (fun i : Addr × Addr × Rl × Int × Int × Bool × Option Br × Option Br => [.ref i.1, .ref i.2.1]) (fun i H => PairI K H i.1 i.2.2.1 i.2.2.2.1 i.2.2.2.2.1 ∧ CaseAt K H i.2.1 i.2.2.2.2.2.1 i.2.2.2.2.2.2.1 i.2.2.2.2.2.2.2 ∧ i.2.2.1.turn.isSome = true)
  fun i _ v H' => ∃ t, v = .ref t ∧ SqT K H' t [.int (tuS i.2.2.1 i.2.2.2.2.1 i.2.2.2.2.2.2.2.isNone).1, .int (tuS i.2.2.1 i.2.2.2.2.1 i.2.2.2.2.2.2.2.isNone).2]
theorem ok_Pair_turned_stretch (T : TX K mg) : Ok P w K mg base 5 (He.ma K (He.ga K "Pair") "turned_stretch") ["self", "case"] (sp_Pair_turned_stretch K) := by
  obtain ⟨fd, F⟩ := T.F_Pair_turned_stretch
  obtain ⟨_, G_Pair_inner_stretch, b_Pair_inner_stretch, k_Pair_inner_stretch⟩ := ok_Pair_inner_stretch (P := P) (w := w) (base := base) T
  refine ⟨fd, okN F sc_Pair_turned_stretch (by first | exact SV.len (fun _ => rfl) | exact PR.len (fun _ => rfl) | exact SJ.len (fun _ => rfl) | exact spEqB_len) (fun cdv A outer s H vs Q E hr h => ?_), F.bindsN (fun _ _ _ _ _ _ us hl => match us, hl with | [_, _], _ => rfl), F.kp⟩
  obtain ⟨⟨a, c, R, l, hh, pt, o, w'⟩, rfl, ⟨hP, hC, hT⟩, q⟩ := h
  dsimp only at hP hC hT q
  obtain ⟨r, f1, hR⟩ := hP.rule
  have f4 := hP.heavy
  obtain ⟨⟨t, s, k⟩, hT⟩ := Option.isSome_iff_exists.mp hT
  obtain ⟨⟨tt, r1, r2⟩, r3⟩ := hR.tn t s k hT
  obtain ⟨g1, g2, g3, g4, g5, g6⟩ := hR.ok.tn t s k hT
  obtain ⟨vw, cw, cwt⟩ := hC.w
  have mi := hP.ins (m := "inner_stretch") (by simp)
  refine ⟨_, (pss_cons (ps_asg (pe_meth0 (pv 0) T.c_Pair T.m_Pair_inner_stretch G_Pair_inner_stretch (hr.mono (by decide)) b_Pair_inner_stretch .nil pass0) (pg_tupK K 2 rfl rfl (pgs_cons (pg_name (i := 3) sc_Pair_turned_stretch.nd rfl (by first | exact Or.inl rfl | exact Or.inr rfl)) (pgs_cons (pg_name (i := 4) sc_Pair_turned_stretch.nd rfl (by first | exact Or.inl rfl | exact Or.inr rfl)) pgs_nil)) rfl rfl))
      (pss_cons (ps_asg (pe_fld (pe_fld (pv 0) rfl) rfl) (pg_tupK K 2 rfl rfl (pgs_cons (pg_name (i := 5) sc_Pair_turned_stretch.nd rfl (by first | exact Or.inl rfl | exact Or.inr rfl)) (pgs_cons (pg_name (i := 6) sc_Pair_turned_stretch.nd rfl (by first | exact Or.inl rfl | exact Or.inr rfl)) pgs_nil)) rfl rfl))
      (pss_cons (ps_set (i := 2) sc_Pair_turned_stretch.nd rfl (Or.inl rfl) (pe_op op_fdivN (pe_op op_add (pe_op op_mul (pv 5) (pe_fld (pv 0) rfl)) (pe_fld (pe_fld (pv 0) rfl) rfl)) (pe_op op_add (pv 6) (pv 5))))
      (pss_one (ps_ret (pe_ifExp (pt_cmpR o_isN (pe_fld (pv 1) rfl) pe_non (nomark _)) (pe_tup (pa_cons (pv 3) (pa_cons (pe_callB (c_min2 rfl) (by rfl) T.n_min (by decide +kernel) (pa_cons (pv 4) (pa_cons (pe_callTy (c_int1) (by rfl) T.n_int (by decide +kernel) (pa_cons (pv 2) pa_nil)) pa_nil))) pa_nil))) (pe_tup (pa_cons (pe_callB (c_max2 rfl) (by rfl) T.n_max (by decide +kernel) (pa_cons (pv 3) (pa_cons (pe_op op_add (pe_callTy (c_int1) (by rfl) T.n_int (by decide +kernel) (pa_cons (pv 2) pa_nil)) pe_int) pa_nil))) (pa_cons (pv 4) pa_nil))))))))), ?_⟩
  walk_at "run"
  cases w' with
  | none =>
    refine iteT ?_
    walk_at "go"
    refine q _ _ ?_ ⟨_, rfl, ?_⟩
    · walk_at "ex"
    · simp only [tuS, hT, Option.isNone_none, if_true]
      exact SqT.of (by assumption)
  | some b =>
    refine iteF ?_
    walk_at "go"
    refine q _ _ ?_ ⟨_, rfl, ?_⟩
    · walk_at "ex"
    · simp only [tuS, hT, Option.isNone_some, Bool.false_eq_true, if_false]
      exact SqT.of (by assumption)
theorem u_turned_stretch {a c : Addr} {R : Rl} {l h : Int} {pt : Bool} {o w' : Option Br} {H : Hp} {Q : VK} {E : XK} (hP : PairI K H a R l h) (hC : CaseAt K H c pt o w') (hT : R.turn.isSome = true) (q : ∀ t H', Ex H H' → SqT K H' t [.int (tuS R h w'.isNone).1, .int (tuS R h w'.isNone).2] → Q (.ref t) H') : sp_Pair_turned_stretch K [.ref a, .ref c] H Q E :=
  ⟨(a, c, R, l, h, pt, o, w'), rfl, ⟨hP, hC, hT⟩, fun v H' e ⟨t, ev, h⟩ => ev ▸ q t H' e h⟩
local macro_rules | `(tactic| walk_at "st") => `(tactic| first
  | ((with_reducible refine' u_turned_stretch ?ha ?hb ?hc ?_); (case ha => walk_at "kn"); (case hb => walk_at "kn"); (case hc => assumption); (refine' fun _ _ _ _ => ?_)))

end
end M
namespace M
open PySem PySem.Spec PyProof.Rows L2 Evl
local macro_rules | `(tactic| walk_at "ar") => `(tactic| first | exact rfl | omega | (simp only [List.length_map, List.length_cons, List.length_nil] at *; omega) | decide)
local macro_rules | `(tactic| walk_at "ex") => `(tactic| first | with_reducible assumption | exact Ex.refl _ | (refine' Ex.trans ?a ?b; (case b => with_reducible assumption); (case a => walk_at "ex")) | (refine' Ex.mu2 ?a ?n ?b; (case b => with_reducible assumption); (case n => with_reducible assumption); (case a => walk_at "ex")))
local macro_rules | `(tactic| walk_at "exn") => `(tactic| first | with_reducible assumption | exact ExN.refl _ | (refine' ExN.trans ?a (ExN.of ?b); (case b => with_reducible assumption); (case a => walk_at "exn")) | (refine' ExN.trans ?a ?b; (case b => with_reducible assumption); (case a => walk_at "exn")))
local macro_rules | `(tactic| walk_at "ln") => `(tactic| first | exact rfl | omega | (simp only [scaleF, addF, List.length_map, List.length_zip, List.length_cons, List.length_nil] <;> omega))
local macro_rules | `(tactic| walk_at "kn") => `(tactic| first
  | with_reducible assumption
  | ((with_reducible refine' Fld.mono ?e ?m); (case e => with_reducible assumption); (case m => walk_at "kn"))
  | ((with_reducible refine' Ins.mono ?e ?m); (case e => with_reducible assumption); (case m => walk_at "kn"))
  | ((with_reducible refine' SqT.of ?m); (case m => walk_at "kn"))
  | ((with_reducible refine' SqL.of ?m); (case m => walk_at "kn"))
  | with_reducible exact kn_DEEDS (by assumption)
  | with_reducible exact kn_INNER (by assumption)
  | with_reducible exact kn_ONCE (by assumption)
  | with_reducible exact kn_TWICE (by assumption)
  | ((with_reducible refine' RB.mono ?e ?m); (case e => with_reducible assumption); (case m => walk_at "kn"))
  | ((with_reducible refine' RuleI.mono ?e ?m); (case e => with_reducible assumption); (case m => walk_at "kn"))
  | ((with_reducible refine' TestAt.mono ?e ?m); (case e => with_reducible assumption); (case m => walk_at "kn"))
  | ((with_reducible refine' TO_mono ?e ?m); (case e => with_reducible assumption); (case m => walk_at "kn"))
  | ((with_reducible refine' CaseAt.mono ?e ?m); (case e => with_reducible assumption); (case m => walk_at "kn"))
  | ((with_reducible refine' LT.fair ?e ?m); (case e => with_reducible assumption); (case m => with_reducible assumption))
  | ((with_reducible refine' LT.turn ?e ?m); (case e => with_reducible assumption); (case m => with_reducible assumption))
  | ((with_reducible refine' FormsB.mono ?e ?m); (case e => with_reducible assumption); (case m => walk_at "kn"))
  | ((with_reducible refine' tl_mono ?e ?m); (case e => with_reducible assumption); (case m => walk_at "kn"))
  | ((with_reducible refine' ExN.t ?e ?m); (case e => with_reducible assumption); (case m => walk_at "kn"))
  | ((with_reducible refine' ExN.fld ?e ?m); (case e => with_reducible assumption); (case m => walk_at "kn"))
  | ((with_reducible refine' ExN.ins ?e ?m); (case e => with_reducible assumption); (case m => walk_at "kn"))
  | ((with_reducible refine' RuleI.monoN ?e ?m); (case e => with_reducible assumption); (case m => walk_at "kn"))
  | ((with_reducible refine' TestAt.monoN ?e ?m); (case e => with_reducible assumption); (case m => walk_at "kn"))
  | ((with_reducible refine' CaseAt.monoN ?e ?m); (case e => with_reducible assumption); (case m => walk_at "kn"))
  | ((with_reducible refine' FormsB.monoN ?e ?m); (case e => with_reducible assumption); (case m => walk_at "kn"))
  | ((with_reducible refine' tl_monoN ?e ?m); (case e => with_reducible assumption); (case m => walk_at "kn"))
  | ((with_reducible refine' LT.mono ?e ?m); (case e => with_reducible assumption); (case m => walk_at "kn"))
  | ((with_reducible refine' PairI.mono ?e ?m); (case e => with_reducible assumption); (case m => walk_at "kn"))
  | ((with_reducible refine' ex_t ?e ?m); (case e => with_reducible assumption); (case m => walk_at "kn"))
  | ((with_reducible refine' ex_l ?e ?m); (case e => with_reducible assumption); (case m => walk_at "kn"))
  | ((with_reducible refine' Ex.at ?e ?m); (case e => with_reducible assumption); (case m => walk_at "kn"))
  | ((with_reducible refine' Mu.t ?e ?n ?m); (case e => with_reducible assumption); (case n => with_reducible assumption); (case m => walk_at "kn"))
  | ((with_reducible refine' Mu.lst ?e ?n ?m); (case e => with_reducible assumption); (case n => with_reducible assumption); (case m => walk_at "kn"))
  | ((with_reducible refine' Mu.fld ?e ?n ?m); (case e => with_reducible assumption); (case n => with_reducible assumption); (case m => walk_at "kn")))
local macro_rules | `(tactic| walk_at "st") => `(tactic| first
  | with_reducible refine k_seq ?_
  | with_reducible refine k_asg ?_
  | with_reducible refine k_ret ?_
  | with_reducible refine k_drop ?_
  | with_reducible refine k_ifS ?_
  | with_reducible refine k_name ?_
  | with_reducible refine k_next ?_
  | ((with_reducible refine' k_var ?hv ?_); case hv => exact rfl)
  | with_reducible refine k_c ?_
  | with_reducible refine k_fld ?_
  | ((with_reducible refine' k_fld2 ?hv ?_); case hv => walk_at "kn")
  | with_reducible refine k_op ?_
  | with_reducible refine k_un ?_
  | with_reducible refine k_add ?_
  | with_reducible refine k_sub ?_
  | with_reducible refine k_neg ?_
  | ((with_reducible refine' k_mul ?hv ?_); case hv => first | (left; constructor <;> omega) | (right; constructor <;> omega))
  | ((with_reducible refine' k_fdiv ?hv ?_); case hv => constructor <;> omega)
  | ((with_reducible refine' k_mod ?hv ?_); case hv => omega)
  | with_reducible refine k_lt ?_
  | with_reducible refine k_le ?_
  | with_reducible refine k_gt ?_
  | with_reducible refine k_ge ?_
  | with_reducible refine k_eqI ?_
  | with_reducible refine k_eqT ?_
  | with_reducible refine k_neI ?_
  | with_reducible refine k_isN_int ?_
  | with_reducible refine k_isN_ref ?_
  | with_reducible refine k_isN_non ?_
  | with_reducible refine k_notN_int ?_
  | with_reducible refine k_notN_ref ?_
  | with_reducible refine k_notN_non ?_
  | with_reducible refine k_test ?_
  | with_reducible refine k_B ?_
  | with_reducible refine k_bx ?_
  | with_reducible refine k_not ?_
  | with_reducible refine k_notV ?_
  | with_reducible refine k_and ?_
  | with_reducible refine k_or ?_
  | with_reducible refine k_andV ?_
  | with_reducible refine k_orV ?_
  | with_reducible refine k_if ?_
  | with_reducible refine k_chain ?_
  | with_reducible refine iteT ?_
  | with_reducible refine iteF ?_
  | with_reducible refine k_nil ?_
  | with_reducible refine k_cons ?_
  | with_reducible refine k_tup ?_
  | with_reducible refine k_lst ?_
  | with_reducible refine k_call ?_
  | with_reducible refine k_meth ?_
  | ((with_reducible refine' k_meth2 ?hv ?_); case hv => walk_at "kn")
  | with_reducible refine k_make ?_
  | with_reducible refine k_cb ?_
  | with_reducible refine k_min2 ?_
  | with_reducible refine k_max2 ?_
  | with_reducible refine k_int1 ?_
  | with_reducible refine k_int1b ?_
  | with_reducible refine k_abs1 ?_
  | ((with_reducible refine' k_gtup ?hv ?hw ?_); (case hv => walk_at "kn"); (case hw => rfl))
  | with_reducible refine k_gcons ?_
  | with_reducible refine k_gnil ?_
  | with_reducible refine k_isi_ii ?_
  | with_reducible refine k_isi_ib ?_
  | with_reducible refine k_isi_ss ?_
  | ((with_reducible refine' k_isi_tt ?hv ?_); case hv => walk_at "kn")
  | with_reducible refine iteNT ?_
  | with_reducible refine iteNF ?_
  | with_reducible refine k_cval ?_
  | ((with_reducible refine' k_cval2 ?hv ?_); case hv => exact kn_most (by assumption))
  | with_reducible refine k_lc ?_
  | with_reducible refine k_iT ?_
  | ((with_reducible refine' k_iT2 ?hv ?_); case hv => walk_at "kn")
  | with_reducible refine k_iL ?_
  | ((with_reducible refine' k_iL2 ?hv ?_); case hv => walk_at "kn")
  | with_reducible refine k_i1 ?_
  | ((with_reducible refine' k_i1a ?hv ?_); case hv => constructor <;> omega)
  | with_reducible refine k_i2 ?_
  | ((with_reducible refine' k_i2a ?hv ?_); case hv => refine ⟨?_, ?_, ?_, ?_⟩ <;> omega)
  | with_reducible refine k_iZ ?_
  | ((with_reducible refine' k_iZa ?hv ?hw ?_); (case hv => walk_at "kn"); (case hw => walk_at "kn"))
  | with_reducible refine k_iN ?_
  | ((with_reducible refine' k_lenT ?hv ?_); case hv => walk_at "kn")
  | ((with_reducible refine' k_lenL ?hv ?_); case hv => walk_at "kn")
  | ((with_reducible refine' k_ixT ?hv ?hw ?_); (case hv => walk_at "kn"); (case hw => rfl))
  | ((with_reducible refine' k_tupL ?hv ?_); (case hv => walk_at "kn"); (refine' fun _ _ _ _ _ => ?_))
  | ((with_reducible refine' k_tupT ?hv ?_); (case hv => walk_at "kn"))
  | ((with_reducible refine' k_new ?hv ?_); (case hv => (simp only [List.length_cons, List.length_nil]; exact sze _ (by omega))); (refine' fun _ _ _ _ _ => ?_))
  | ((with_reducible refine' k_isiW ?hT ?hv ?_); (case hT => assumption); (case hv => walk_at "kn"))
  | ((with_reducible refine' k_isiT ?hT ?hv ?_); (case hT => assumption); (case hv => walk_at "kn"))
  | ((with_reducible refine' k_isiC ?hT ?hv ?_); (case hT => assumption); (case hv => walk_at "kn"))
  | ((with_reducible refine' k_isiLT ?hv ?hw ?_); (case hv => walk_at "kn"); (case hw => walk_at "kn"))
  | ((with_reducible refine' k_isN_TO ?hv ?_); (case hv => walk_at "kn"))
  | ((with_reducible refine' k_notN_TO ?hv ?_); (case hv => walk_at "kn"))
  | ((with_reducible refine' k_notInDeeds ?hv ?_); (case hv => walk_at "kn"))
  | with_reducible refine k_eqPut ?_
  | ((refine' k_eqB .inn ?hv ?hw ?hx ?_); (case hv => walk_at "kn"); (case hw => walk_at "kn"); (case hx => rfl))
  | ((refine' k_eqB .lf ?hv ?hw ?hx ?_); (case hv => walk_at "kn"); (case hw => walk_at "kn"); (case hx => rfl))
  | ((refine' k_eqB .ls ?hv ?hw ?hx ?_); (case hv => walk_at "kn"); (case hw => walk_at "kn"); (case hx => rfl))
  | ((refine' k_eqB .ff ?hv ?hw ?hx ?_); (case hv => walk_at "kn"); (case hw => walk_at "kn"); (case hx => rfl))
  | ((refine' k_eqB .fs ?hv ?hw ?hx ?_); (case hv => walk_at "kn"); (case hw => walk_at "kn"); (case hx => rfl))
  | ((refine' k_eqB .tf ?hv ?hw ?hx ?_); (case hv => walk_at "kn"); (case hw => walk_at "kn"); (case hx => rfl))
  | ((with_reducible refine' k_yes ?hv ?_); (case hv => walk_at "ar"))
  | ((with_reducible refine' k_no ?hv ?_); (case hv => walk_at "ar"))
  | ((with_reducible refine' k_nyes ?hv ?_); (case hv => walk_at "ar"))
  | ((with_reducible refine' k_nno ?hv ?_); (case hv => walk_at "ar"))
  | with_reducible refine k_sfld ?_
  | ((with_reducible refine' k_ixL ?hv ?hw ?_); (case hv => walk_at "kn"); (case hw => rfl))
  | ((with_reducible refine' k_sumTu _ ?hv ?_); (case hv => walk_at "kn"))
  | ((with_reducible refine' u_is_integer  ?_); (refine' fun _ _ => ?_))
  | ((with_reducible refine' u_over ?ha ?_); (case ha => constructor <;> omega); (refine' fun _ _ => ?_))
  | ((with_reducible refine' u_is_within ?ha ?_); (case ha => constructor <;> omega); (refine' fun _ _ => ?_))
  | ((with_reducible refine' u_need_plus ?ha ?_); (case ha => constructor <;> omega); (refine' fun _ _ => ?_))
  | ((with_reducible refine' u_need_weight ?ha ?_); (case ha => constructor <;> omega); (refine' fun _ _ => ?_))
  | ((with_reducible refine' u_is_times ?ha ?hb ?_); (case ha => walk_at "kn"); (case hb => refine ⟨⟨?_, ?_⟩, ?_, ?_⟩ <;> omega); (refine' fun _ _ => ?_))
  | ((with_reducible refine' u_beside ?ha ?_); (case ha => walk_at "kn"); (refine' fun _ _ => ?_))
  | ((with_reducible refine' u_greatest ?ha ?hb ?_); (case ha => walk_at "kn"); (case hb => constructor <;> omega); (refine' fun _ _ => ?_))
  | ((with_reducible refine' u_need_weight_rule ?ha ?_); (case ha => walk_at "kn"); (refine' fun _ _ => ?_))
  | ((with_reducible refine' u_need_deed  ?_); (refine' fun _ _ => ?_))
  | ((with_reducible refine' u_has_three ?ha ?_); (case ha => walk_at "kn"); (refine' fun _ _ => ?_))
  | ((with_reducible refine' u_scaled ?ha ?hb ?_); (case ha => walk_at "kn"); (case hb => refine ⟨⟨?_, ?_⟩, ?_⟩ <;> (walk_at "ln")); (refine' fun _ _ _ _ => ?_))
  | ((with_reducible refine' u_added ?ha ?hb ?hc ?_); (case ha => walk_at "kn"); (case hb => walk_at "kn"); (case hc => constructor <;> (walk_at "ln")); (refine' fun _ _ _ _ => ?_))
  | ((with_reducible refine' u_amount ?ha ?hb ?hc ?_); (case ha => walk_at "kn"); (case hb => walk_at "kn"); (case hc => assumption); (refine' fun _ _ => ?_))
  | ((with_reducible refine' u_mk_Test ?ha ?hb ?_); (case ha => walk_at "kn"); (case hb => assumption); (refine' fun _ _ _ _ => ?_))
  | ((with_reducible refine' k_eq1st  ?_))
  | ((with_reducible refine' u_heavy_form ?ha ?_); (case ha => walk_at "kn"); (refine' fun _ _ _ _ => ?_))
  | ((with_reducible refine' u_sides ?ha ?hb ?_); (case ha => walk_at "kn"); (case hb => assumption); (refine' fun _ _ _ _ _ _ _ _ => ?_))
  | ((with_reducible refine' u_fair_tests ?ha ?hb ?hc ?hd ?_); (case ha => walk_at "kn"); (case hb => walk_at "kn"); (case hc => walk_at "kn"); (case hd => assumption); (refine' fun _ _ _ _ _ _ => ?_))
  | ((with_reducible refine' u_unfair_test ?ha ?hb ?hc ?hd ?_); (case ha => walk_at "kn"); (case hb => walk_at "kn"); (case hc => walk_at "kn"); (case hd => assumption); (refine' fun _ _ _ _ => ?_))
  | ((with_reducible refine' k_eq1st  ?_))
  | ((with_reducible refine' u_turn_tests ?ha ?hb ?_); (case ha => walk_at "kn"); (case hb => walk_at "kn"); (refine' fun _ _ _ _ _ _ => ?_))
  | ((with_reducible refine' u_break_test ?ha ?hb ?hc ?hd ?_); (case ha => walk_at "kn"); (case hb => walk_at "kn"); (case hc => walk_at "kn"); (case hd => assumption); (refine' fun _ _ _ _ => ?_))
  | ((with_reducible refine' k_ifv ?ha ?hb ?_); (case ha => exact rfl); (case hb => exact rfl))
  | ((with_reducible refine' k_apT ?ha ?hb ?hc ?_); (case ha => walk_at "kn"); (case hb => omega); (case hc => first | with_reducible assumption | (with_reducible exact TL.mk2 (by assumption)) | (with_reducible exact TL.mk (by assumption))); (refine' fun _ _ _ _ => ?_))
  | ((with_reducible refine' k_exT ?ha ?hb ?hc ?_); (case ha => walk_at "kn"); (case hb => walk_at "kn"); (case hc => omega); (refine' fun _ _ _ _ => ?_))
  | ((with_reducible refine' k_bm  ?_))
  | ((with_reducible refine' k_bmL ?ha ?_); (case ha => walk_at "kn"))
  | ((with_reducible refine' k_tupLT ?ha ?_); (case ha => walk_at "kn"); (refine' fun _ _ _ _ _ _ => ?_))
  | ((with_reducible refine' u_mk_Case ?ha ?hb ?_); (case ha => walk_at "kt"); (case hb => walk_at "kt"); (refine' fun _ _ _ _ => ?_))
  | ((with_reducible refine' k_bmL1 ?ha ?_); (case ha => walk_at "kn"))
  | ((with_reducible refine' k_for  ?_))
  | ((with_reducible refine' u_all_cases ?ha ?_); (case ha => walk_at "kn"); (refine' fun _ _ _ _ _ _ => ?_))
  | ((with_reducible refine' u_need_case ?ha ?hb ?hc ?_); (case ha => walk_at "kn"); (case hb => walk_at "kn"); (case hc => assumption); (refine' fun _ _ => ?_))
  | ((with_reducible refine' u_tests_in ?ha ?hb ?hc ?_); (case ha => walk_at "kn"); (case hb => walk_at "kn"); (case hc => assumption); (refine' fun _ _ _ _ _ _ => ?_))
  | ((with_reducible refine' k_callI0  ?_))
  | ((with_reducible refine' k_callI1  ?_))
  | ((with_reducible refine' k_gfld  ?_))
  | ((with_reducible refine' u_inner_stretch ?ha ?_); (case ha => walk_at "kn"); (refine' fun _ _ _ _ => ?_))
  | ((with_reducible refine' u_turned_stretch ?ha ?hb ?hc ?_); (case ha => walk_at "kn"); (case hb => walk_at "kn"); (case hc => assumption); (refine' fun _ _ _ _ => ?_)))
local macro_rules | `(tactic| walk_at "go") => `(tactic| repeat (walk_at "st"))
local macro_rules | `(tactic| walk_at "run") => `(tactic| (dsimp only [cxK]; walk_at "go"))

section
variable {P : Program} {w : World} {K : PySem.W.Frag} {mg : Str → Option Value} {base : Heap}
def sp_Pair_once_stretch (K : PySem.W.Frag) : Sp := PR (fun i : Addr × Addr × Addr × Rl × Int × Int × Br × Int × Int => [.ref i.1, .ref i.2.1, .ref i.2.2.1]) (fun i H => PairI K H i.1 i.2.2.2.1 i.2.2.2.2.1 i.2.2.2.2.2.1 ∧ SqT K H i.2.1 i.2.2.2.2.2.2.1.vs ∧ SqT K H i.2.2.1 [.int i.2.2.2.2.2.2.2.1, .int i.2.2.2.2.2.2.2.2])
  fun i _ v H' => ∃ t, v = .ref t ∧ SqT K H' t [.int (onS i.2.2.2.1 i.2.2.2.2.1 i.2.2.2.2.2.1 i.2.2.2.2.2.2.1 i.2.2.2.2.2.2.2).1, .int (onS i.2.2.2.1 i.2.2.2.2.1 i.2.2.2.2.2.1 i.2.2.2.2.2.2.1 i.2.2.2.2.2.2.2).2]
theorem ok_Pair_once_stretch (T : TX K mg) : Ok P w K mg base 3 (He.ma K (He.ga K "Pair") "once_stretch") ["self", "told", "stretch"] (sp_Pair_once_stretch K) := by
  obtain ⟨fd, F⟩ := T.F_Pair_once_stretch
  obtain ⟨_, G_over, b_over, k_over⟩ := ok_over (P := P) (w := w) (base := base) T
  refine ⟨fd, okN F sc_Pair_once_stretch (by first | exact SV.len (fun _ => rfl) | exact PR.len (fun _ => rfl) | exact SJ.len (fun _ => rfl) | exact spEqB_len) (fun cdv A outer s H vs Q E hr h => ?_), F.bindsN (fun _ _ _ _ _ _ us hl => match us, hl with | [_, _, _], _ => rfl), F.kp⟩
  obtain ⟨⟨a, tb, ts, R, l, hh, b, s1, s2⟩, rfl, ⟨hP, hb, hs⟩, q⟩ := h
  dsimp only at hP hb hs q
  have f1 := hP.p
  have f2 := hP.q
  have f3 := hP.more
  have f4 := hP.light
  have f5 := hP.heavy
  have q1 := hP.ok.q1
  have qp := hP.ok.qp
  have p6 := hP.ok.p6
  refine ⟨_, (pss_cons (ps_asg (pv 2) (pg_tupK K 2 rfl rfl (pgs_cons (pg_name (i := 4) sc_Pair_once_stretch.nd rfl (by first | exact Or.inl rfl | exact Or.inr rfl)) (pgs_cons (pg_name (i := 5) sc_Pair_once_stretch.nd rfl (by first | exact Or.inl rfl | exact Or.inr rfl)) pgs_nil)) rfl rfl))
      (pss_cons (ps_set (i := 3) sc_Pair_once_stretch.nd rfl (Or.inl rfl) (pe_op op_add (pe_fld (pv 0) rfl) (pe_fld (pv 0) rfl)))
      (pss_cons (ps_if (pt_cmpR (op_eqD (room64 hr)) (pv 1) (pe_tup (pa_cons pe_str (pa_cons pe_str pa_nil))) (nomark _)) (pss_one (ps_ret (pe_tup (pa_cons (pv 4) (pa_cons (pe_callB (c_min2 rfl) (by rfl) T.n_min (by decide +kernel) (pa_cons (pv 5) (pa_cons (pe_callTy (c_int1) (by rfl) T.n_int (by decide +kernel) (pa_cons (pe_op op_fdivN (pe_op op_sub (pe_op op_mul (pe_fld (pv 0) rfl) (pe_fld (pv 0) rfl)) (pe_fld (pv 0) rfl)) (pe_fld (pv 0) rfl)) pa_nil)) pa_nil))) pa_nil))))) pss_nil)
      (pss_cons (ps_if (pt_cmpR (op_eqD (room64 hr)) (pv 1) (pe_tup (pa_cons pe_str (pa_cons pe_str pa_nil))) (nomark _)) (pss_one (ps_ret (pe_tup (pa_cons (pe_callB (c_max2 rfl) (by rfl) T.n_max (by decide +kernel) (pa_cons (pv 4) (pa_cons (pe_callTy (c_int1) (by rfl) T.n_int (by decide +kernel) (pa_cons (pe_call G_over (hr.mono (by decide)) (by rfl) T.g_over k_over b_over .nil pass0 (pa_cons (pe_op op_add (pe_op op_mul (pe_fld (pv 0) rfl) (pe_fld (pv 0) rfl)) (pe_fld (pv 0) rfl)) (pa_cons (pe_fld (pv 0) rfl) pa_nil))) pa_nil)) pa_nil))) (pa_cons (pv 5) pa_nil))))) pss_nil)
      (pss_cons (ps_if (pt_cmpR (op_eqD (room64 hr)) (pv 1) (pe_tup (pa_cons pe_str (pa_cons pe_str pa_nil))) (nomark _)) (pss_one (ps_ret (pe_tup (pa_cons (pe_callB (c_max2 rfl) (by rfl) T.n_max (by decide +kernel) (pa_cons (pv 4) (pa_cons (pe_callTy (c_int1) (by rfl) T.n_int (by decide +kernel) (pa_cons (pe_call G_over (hr.mono (by decide)) (by rfl) T.g_over k_over b_over .nil pass0 (pa_cons (pe_op op_sub (pe_op op_add (pe_op op_mul (pe_fld (pv 0) rfl) (pe_fld (pv 0) rfl)) (pe_fld (pv 0) rfl)) (pe_op op_mul (pe_fld (pv 0) rfl) (pe_fld (pv 0) rfl))) (pa_cons (pv 3) pa_nil))) pa_nil)) pa_nil))) (pa_cons (pv 5) pa_nil))))) pss_nil)
      (pss_one (ps_ret (pe_tup (pa_cons (pv 4) (pa_cons (pe_callB (c_min2 rfl) (by rfl) T.n_min (by decide +kernel) (pa_cons (pv 5) (pa_cons (pe_callTy (c_int1) (by rfl) T.n_int (by decide +kernel) (pa_cons (pe_op op_fdivN (pe_op op_sub (pe_op op_sub (pe_op op_mul (pe_fld (pv 0) rfl) (pe_fld (pv 0) rfl)) (pe_op op_mul (pe_fld (pv 0) rfl) (pe_fld (pv 0) rfl))) (pe_fld (pv 0) rfl)) (pv 3)) pa_nil)) pa_nil))) pa_nil)))))))))), ?_⟩
  walk_at "run"
  refine k_dec (fun e => ?_) (fun e1 => ?_)
  · subst e
    walk_at "go"
    refine q _ _ ?_ ⟨_, rfl, SqT.of (by assumption)⟩
    walk_at "ex"
  walk_at "go"
  refine k_dec (fun e => ?_) (fun e2 => ?_)
  · subst e
    walk_at "go"
    refine q _ _ ?_ ⟨_, rfl, SqT.of (by assumption)⟩
    walk_at "ex"
  walk_at "go"
  refine k_dec (fun e => ?_) (fun e3 => ?_)
  · subst e
    walk_at "go"
    refine q _ _ ?_ ⟨_, rfl, SqT.of (by assumption)⟩
    walk_at "ex"
  walk_at "go"
  refine q _ _ ?_ ⟨_, rfl, ?_⟩
  · walk_at "ex"
  · have e : onS R l hh b (s1, s2) = (s1, min s2 ((R.q * hh - R.p * l - (R.k + 1)) / (R.p + R.q))) := by cases b <;> first | exact absurd rfl e1 | exact absurd rfl e2 | exact absurd rfl e3 | rfl
    rw [e]
    exact SqT.of (by assumption)
theorem u_once_stretch {a tb ts : Addr} {R : Rl} {l h : Int} {b : Br} {s1 s2 : Int} {H : Hp} {Q : VK} {E : XK} (hP : PairI K H a R l h) (hb : SqT K H tb b.vs) (hs : SqT K H ts [.int s1, .int s2]) (q : ∀ t H', Ex H H' → SqT K H' t [.int (onS R l h b (s1, s2)).1, .int (onS R l h b (s1, s2)).2] → Q (.ref t) H') : sp_Pair_once_stretch K [.ref a, .ref tb, .ref ts] H Q E :=
  ⟨(a, tb, ts, R, l, h, b, s1, s2), rfl, ⟨hP, hb, hs⟩, fun v H' e ⟨t, ev, h⟩ => ev ▸ q t H' e h⟩
local macro_rules | `(tactic| walk_at "st") => `(tactic| first
  | ((with_reducible refine' u_once_stretch ?ha ?hb ?hc ?_); (case ha => walk_at "kn"); (case hb => walk_at "kn"); (case hc => walk_at "kn"); (refine' fun _ _ _ _ => ?_)))
def sp_Pair_near_stretch (K : PySem.W.Frag) : Sp := PR (fun i : Addr × Addr × Int × Rl × Int × Int × Br => [.ref i.1, .ref i.2.1, .int i.2.2.1]) (fun i H => PairI K H i.1 i.2.2.2.1 i.2.2.2.2.1 i.2.2.2.2.2.1 ∧ SqT K H i.2.1 i.2.2.2.2.2.2.vs)
  fun i _ v H' => ∃ t, v = .ref t ∧ SqT K H' t [.int (nrS i.2.2.2.1 i.2.2.2.2.1 i.2.2.2.2.2.1 i.2.2.2.2.2.2 i.2.2.1).1, .int (nrS i.2.2.2.1 i.2.2.2.2.1 i.2.2.2.2.2.1 i.2.2.2.2.2.2 i.2.2.1).2]
theorem ok_Pair_near_stretch (T : TX K mg) : Ok P w K mg base 3 (He.ma K (He.ga K "Pair") "near_stretch") ["self", "told", "inner"] (sp_Pair_near_stretch K) := by
  obtain ⟨fd, F⟩ := T.F_Pair_near_stretch
  obtain ⟨_, G_over, b_over, k_over⟩ := ok_over (P := P) (w := w) (base := base) T
  refine ⟨fd, okN F sc_Pair_near_stretch (by first | exact SV.len (fun _ => rfl) | exact PR.len (fun _ => rfl) | exact SJ.len (fun _ => rfl) | exact spEqB_len) (fun cdv A outer s H vs Q E hr h => ?_), F.bindsN (fun _ _ _ _ _ _ us hl => match us, hl with | [_, _, _], _ => rfl), F.kp⟩
  obtain ⟨⟨a, tb, c, R, l, hh, b⟩, rfl, ⟨hP, hb⟩, q⟩ := h
  dsimp only at hP hb q
  obtain ⟨r, f0, hR⟩ := hP.rule
  have f00 := hR.rb.k
  have f1 := hP.p
  have f2 := hP.q
  have f3 := hP.more
  have f4 := hP.light
  have f5 := hP.heavy
  have q1 := hP.ok.q1
  have qp := hP.ok.qp
  have p6 := hP.ok.p6
  refine ⟨_, (pss_cons (ps_set (i := 3) sc_Pair_near_stretch.nd rfl (Or.inl rfl) (pe_op op_add (pe_fld (pv 0) rfl) (pe_fld (pv 0) rfl)))
      (pss_cons (ps_set (i := 4) sc_Pair_near_stretch.nd rfl (Or.inl rfl) (pe_callB (c_max2 rfl) (by rfl) T.n_max (by decide +kernel) (pa_cons pe_int (pa_cons (pe_callTy (c_int1) (by rfl) T.n_int (by decide +kernel) (pa_cons (pe_call G_over (hr.mono (by decide)) (by rfl) T.g_over k_over b_over .nil pass0 (pa_cons (pe_op op_sub (pe_op op_mul (pe_fld (pv 0) rfl) (pv 2)) (pe_fld (pe_fld (pv 0) rfl) rfl)) (pa_cons (pv 3) pa_nil))) pa_nil)) pa_nil))))
      (pss_cons (ps_set (i := 5) sc_Pair_near_stretch.nd rfl (Or.inl rfl) (pe_callB (c_min2 rfl) (by rfl) T.n_min (by decide +kernel) (pa_cons (pe_op op_sub (pv 2) pe_int) (pa_cons (pe_callTy (c_int1) (by rfl) T.n_int (by decide +kernel) (pa_cons (pe_op op_fdivN (pe_op op_add (pe_op op_mul (pe_fld (pv 0) rfl) (pv 2)) (pe_fld (pe_fld (pv 0) rfl) rfl)) (pv 3)) pa_nil)) pa_nil))))
      (pss_cons (ps_set (i := 6) sc_Pair_near_stretch.nd rfl (Or.inl rfl) (pe_op op_sub (pe_fld (pv 0) rfl) (pv 2)))
      (pss_cons (ps_if (pt_cmpR (op_eqD (room64 hr)) (pv 1) (pe_tup (pa_cons pe_str (pa_cons pe_str pa_nil))) (nomark _)) (pss_one (ps_ret (pe_tup (pa_cons (pv 4) (pa_cons (pe_callB (c_min2 rfl) (by rfl) T.n_min (by decide +kernel) (pa_cons (pv 5) (pa_cons (pe_callTy (c_int1) (by rfl) T.n_int (by decide +kernel) (pa_cons (pe_op op_fdivN (pe_op op_sub (pe_op op_mul (pe_fld (pv 0) rfl) (pe_fld (pv 0) rfl)) (pe_fld (pv 0) rfl)) (pe_fld (pv 0) rfl)) pa_nil)) pa_nil))) pa_nil))))) pss_nil)
      (pss_cons (ps_if (pt_cmpR (op_eqD (room64 hr)) (pv 1) (pe_tup (pa_cons pe_str (pa_cons pe_str pa_nil))) (nomark _)) (pss_one (ps_ret (pe_tup (pa_cons (pe_callB (c_max2 rfl) (by rfl) T.n_max (by decide +kernel) (pa_cons (pv 4) (pa_cons (pe_callTy (c_int1) (by rfl) T.n_int (by decide +kernel) (pa_cons (pe_call G_over (hr.mono (by decide)) (by rfl) T.g_over k_over b_over .nil pass0 (pa_cons (pe_op op_add (pe_op op_mul (pe_fld (pv 0) rfl) (pe_fld (pv 0) rfl)) (pe_fld (pv 0) rfl)) (pa_cons (pe_fld (pv 0) rfl) pa_nil))) pa_nil)) pa_nil))) (pa_cons (pv 5) pa_nil))))) pss_nil)
      (pss_cons (ps_if (pt_cmpR (op_eqD (room64 hr)) (pv 1) (pe_tup (pa_cons pe_str (pa_cons pe_str pa_nil))) (nomark _)) (pss_one (ps_ret (pe_tup (pa_cons (pv 4) (pa_cons (pe_callB (c_min2 rfl) (by rfl) T.n_min (by decide +kernel) (pa_cons (pe_callTy (c_int1) (by rfl) T.n_int (by decide +kernel) (pa_cons (pv 5) pa_nil)) (pa_cons (pe_callTy (c_int1) (by rfl) T.n_int (by decide +kernel) (pa_cons (pe_op op_sub (pv 2) (pe_call G_over (hr.mono (by decide)) (by rfl) T.g_over k_over b_over .nil pass0 (pa_cons (pe_op op_add (pe_op op_mul (pe_fld (pv 0) rfl) (pv 6)) (pe_fld (pv 0) rfl)) (pa_cons (pe_fld (pv 0) rfl) pa_nil)))) pa_nil)) pa_nil))) pa_nil))))) pss_nil)
      (pss_cons (ps_if (pt_cmpR (op_eqD (room64 hr)) (pv 1) (pe_tup (pa_cons pe_str (pa_cons pe_str pa_nil))) (nomark _)) (pss_one (ps_ret (pe_tup (pa_cons (pe_callB (c_max2 rfl) (by rfl) T.n_max (by decide +kernel) (pa_cons (pe_callTy (c_int1) (by rfl) T.n_int (by decide +kernel) (pa_cons (pv 4) pa_nil)) (pa_cons (pe_callTy (c_int1) (by rfl) T.n_int (by decide +kernel) (pa_cons (pe_op op_sub (pv 2) (pe_op op_fdivN (pe_op op_sub (pe_op op_mul (pe_fld (pv 0) rfl) (pv 6)) (pe_fld (pv 0) rfl)) (pe_fld (pv 0) rfl))) pa_nil)) pa_nil))) (pa_cons (pv 5) pa_nil))))) pss_nil)
      (pss_cons (ps_if (pt_cmpR (op_eqD (room64 hr)) (pv 1) (pe_tup (pa_cons pe_str (pa_cons pe_str pa_nil))) (nomark _)) (pss_one (ps_ret (pe_tup (pa_cons (pe_callB (c_max2 rfl) (by rfl) T.n_max (by decide +kernel) (pa_cons (pv 4) (pa_cons (pe_callTy (c_int1) (by rfl) T.n_int (by decide +kernel) (pa_cons (pe_call G_over (hr.mono (by decide)) (by rfl) T.g_over k_over b_over .nil pass0 (pa_cons (pe_op op_sub (pe_op op_add (pe_op op_mul (pe_fld (pv 0) rfl) (pe_fld (pv 0) rfl)) (pe_fld (pv 0) rfl)) (pe_op op_mul (pe_fld (pv 0) rfl) (pe_fld (pv 0) rfl))) (pa_cons (pv 3) pa_nil))) pa_nil)) pa_nil))) (pa_cons (pv 5) pa_nil))))) pss_nil)
      (pss_one (ps_ret (pe_tup (pa_cons (pv 4) (pa_cons (pe_callB (c_min2 rfl) (by rfl) T.n_min (by decide +kernel) (pa_cons (pv 5) (pa_cons (pe_callTy (c_int1) (by rfl) T.n_int (by decide +kernel) (pa_cons (pe_op op_fdivN (pe_op op_sub (pe_op op_sub (pe_op op_mul (pe_fld (pv 0) rfl) (pe_fld (pv 0) rfl)) (pe_op op_mul (pe_fld (pv 0) rfl) (pe_fld (pv 0) rfl))) (pe_fld (pv 0) rfl)) (pv 3)) pa_nil)) pa_nil))) pa_nil)))))))))))))), ?_⟩
  walk_at "run"
  refine k_dec (fun e => ?_) (fun e1 => ?_)
  · subst e
    walk_at "go"
    refine q _ _ ?_ ⟨_, rfl, SqT.of (by assumption)⟩
    walk_at "ex"
  walk_at "go"
  refine k_dec (fun e => ?_) (fun e2 => ?_)
  · subst e
    walk_at "go"
    refine q _ _ ?_ ⟨_, rfl, SqT.of (by assumption)⟩
    walk_at "ex"
  walk_at "go"
  refine k_dec (fun e => ?_) (fun e3 => ?_)
  · subst e
    walk_at "go"
    refine q _ _ ?_ ⟨_, rfl, SqT.of (by assumption)⟩
    walk_at "ex"
  walk_at "go"
  refine k_dec (fun e => ?_) (fun e4 => ?_)
  · subst e
    walk_at "go"
    refine q _ _ ?_ ⟨_, rfl, SqT.of (by assumption)⟩
    walk_at "ex"
  walk_at "go"
  refine k_dec (fun e => ?_) (fun e5 => ?_)
  · subst e
    walk_at "go"
    refine q _ _ ?_ ⟨_, rfl, SqT.of (by assumption)⟩
    walk_at "ex"
  walk_at "go"
  refine q _ _ ?_ ⟨_, rfl, ?_⟩
  · walk_at "ex"
  · have e : nrS R l hh b c = (max 1 (over (R.q * c - R.k) (R.p + R.q)), min (min (c - 1) ((R.p * c + R.k) / (R.p + R.q))) ((R.q * hh - R.p * l - (R.k + 1)) / (R.p + R.q))) := by cases b <;> first | exact absurd rfl e1 | exact absurd rfl e2 | exact absurd rfl e3 | exact absurd rfl e4 | exact absurd rfl e5 | rfl
    rw [e]
    exact SqT.of (by assumption)
theorem u_near_stretch {a tb : Addr} {R : Rl} {l h c : Int} {b : Br} {H : Hp} {Q : VK} {E : XK} (hP : PairI K H a R l h) (hb : SqT K H tb b.vs) (q : ∀ t H', Ex H H' → SqT K H' t [.int (nrS R l h b c).1, .int (nrS R l h b c).2] → Q (.ref t) H') : sp_Pair_near_stretch K [.ref a, .ref tb, .int c] H Q E :=
  ⟨(a, tb, c, R, l, h, b), rfl, ⟨hP, hb⟩, fun v H' e ⟨t, ev, h⟩ => ev ▸ q t H' e h⟩
local macro_rules | `(tactic| walk_at "st") => `(tactic| first
  | ((with_reducible refine' u_near_stretch ?ha ?hb ?_); (case ha => walk_at "kn"); (case hb => walk_at "kn"); (refine' fun _ _ _ _ => ?_)))
def oV : Option Int → V
  | none => .non
  | some i => .int i
def sp_Pair_near_for (K : PySem.W.Frag) : Sp := SV (fun i : Addr × Addr × Int × Rl × Int × Int × Br => [.ref i.1, .ref i.2.1, .int i.2.2.1]) (fun i H => PairI K H i.1 i.2.2.2.1 i.2.2.2.2.1 i.2.2.2.2.2.1 ∧ SqT K H i.2.1 i.2.2.2.2.2.2.vs)
  fun i => oV (nrF i.2.2.2.1 i.2.2.2.2.1 i.2.2.2.2.2.1 i.2.2.2.2.2.2 i.2.2.1)
theorem ok_Pair_near_for (T : TX K mg) : Ok P w K mg base 5 (He.ma K (He.ga K "Pair") "near_for") ["self", "told", "inner"] (sp_Pair_near_for K) := by
  obtain ⟨fd, F⟩ := T.F_Pair_near_for
  obtain ⟨_, G_Pair_near_stretch, b_Pair_near_stretch, k_Pair_near_stretch⟩ := ok_Pair_near_stretch (P := P) (w := w) (base := base) T
  refine ⟨fd, okN F sc_Pair_near_for (by first | exact SV.len (fun _ => rfl) | exact PR.len (fun _ => rfl) | exact SJ.len (fun _ => rfl) | exact spEqB_len) (fun cdv A outer s H vs Q E hr h => ?_), F.bindsN (fun _ _ _ _ _ _ us hl => match us, hl with | [_, _, _], _ => rfl), F.kp⟩
  obtain ⟨⟨a, tb, c, R, l, hh, b⟩, rfl, ⟨hP, hb⟩, q⟩ := h
  dsimp only at hP hb q
  have mi := hP.ins (m := "near_stretch") (by simp)
  refine ⟨_, (pss_cons (ps_asg (pe_meth (pv 0) T.c_Pair T.m_Pair_near_stretch G_Pair_near_stretch (hr.mono (by decide)) b_Pair_near_stretch .nil pass0 (pa_cons (pv 1) (pa_cons (pv 2) pa_nil))) (pg_tupK K 2 rfl rfl (pgs_cons (pg_name (i := 3) sc_Pair_near_for.nd rfl (by first | exact Or.inl rfl | exact Or.inr rfl)) (pgs_cons (pg_name (i := 4) sc_Pair_near_for.nd rfl (by first | exact Or.inl rfl | exact Or.inr rfl)) pgs_nil)) rfl rfl))
      (pss_one (ps_ret (pe_ifExp (pt_cmpR op_le (pv 3) (pv 4) (nomark _)) (pv 3) pe_non)))), ?_⟩
  walk_at "run"
  refine k_dec (fun e => ?_) (fun e => ?_)
  · walk_at "go"
    rw [nrF, if_pos e] at q
    refine q _ ?_
    walk_at "ex"
  · walk_at "go"
    rw [nrF, if_neg e] at q
    refine q _ ?_
    walk_at "ex"
theorem u_near_for {a tb : Addr} {R : Rl} {l h c : Int} {b : Br} {H : Hp} {Q : VK} {E : XK} (hP : PairI K H a R l h) (hb : SqT K H tb b.vs) (q : ∀ H', Ex H H' → Q (oV (nrF R l h b c)) H') : sp_Pair_near_for K [.ref a, .ref tb, .int c] H Q E := ⟨(a, tb, c, R, l, h, b), rfl, ⟨hP, hb⟩, q⟩
local macro_rules | `(tactic| walk_at "st") => `(tactic| first
  | ((with_reducible refine' u_near_for ?ha ?hb ?_); (case ha => walk_at "kn"); (case hb => walk_at "kn"); (refine' fun _ _ => ?_)))
theorem k_isN_oV {o : Option Int} {H : Hp} {Q : VK} (q : Q (.bl o.isNone) H) : rIsN (oV o) .non H Q := by
  refine ⟨rfl, ?_⟩
  cases o <;> exact q
theorem k_notN_oV {o : Option Int} {H : Hp} {Q : VK} (q : Q (.bl o.isSome) H) : rNotN (oV o) .non H Q := by
  refine ⟨rfl, ?_⟩
  cases o <;> exact q
local macro_rules | `(tactic| walk_at "st") => `(tactic| first
  | ((with_reducible refine' k_isN_oV  ?_)))
local macro_rules | `(tactic| walk_at "st") => `(tactic| first
  | ((with_reducible refine' k_notN_oV  ?_)))
theorem casesOf_turn {R : Rl} {o w' : Option Br} (h : (o, w') ∈ casesOf R) (n : o = none ∨ w' = none) : R.turn.isSome = true := by
  cases e : R.turn with
  | some x => rfl
  | none =>
    simp only [casesOf, e, Option.isSome_none, Bool.false_eq_true, if_false, List.mem_flatMap, List.mem_map, Prod.mk.injEq] at h
    obtain ⟨c, hc, d, hd, e1, e2⟩ := h
    subst e1 e2
    rcases n with n | n <;> cases n
def sp_Pair_stretch_of (K : PySem.W.Frag) : Sp := PR (fun i : Addr × Addr × Rl × Int × Int × Bool × Option Br × Option Br => [.ref i.1, .ref i.2.1]) (fun i H => PairI K H i.1 i.2.2.1 i.2.2.2.1 i.2.2.2.2.1 ∧ CaseAt K H i.2.1 i.2.2.2.2.2.1 i.2.2.2.2.2.2.1 i.2.2.2.2.2.2.2 ∧ (i.2.2.2.2.2.2.1, i.2.2.2.2.2.2.2) ∈ casesOf i.2.2.1)
  fun i _ v H' => ∃ t, v = .ref t ∧ SqT K H' t [.int (stO i.2.2.1 i.2.2.2.1 i.2.2.2.2.1 i.2.2.2.2.2.2.1 i.2.2.2.2.2.2.2).1, .int (stO i.2.2.1 i.2.2.2.1 i.2.2.2.2.1 i.2.2.2.2.2.2.1 i.2.2.2.2.2.2.2).2]
theorem ok_Pair_stretch_of (T : TX K mg) : Ok P w K mg base 7 (He.ma K (He.ga K "Pair") "stretch_of") ["self", "case"] (sp_Pair_stretch_of K) := by
  obtain ⟨fd, F⟩ := T.F_Pair_stretch_of
  obtain ⟨_, G_Pair_inner_stretch, b_Pair_inner_stretch, k_Pair_inner_stretch⟩ := ok_Pair_inner_stretch (P := P) (w := w) (base := base) T
  obtain ⟨_, G_Pair_turned_stretch, b_Pair_turned_stretch, k_Pair_turned_stretch⟩ := ok_Pair_turned_stretch (P := P) (w := w) (base := base) T
  obtain ⟨_, G_Pair_once_stretch, b_Pair_once_stretch, k_Pair_once_stretch⟩ := ok_Pair_once_stretch (P := P) (w := w) (base := base) T
  refine ⟨fd, okN F sc_Pair_stretch_of (by first | exact SV.len (fun _ => rfl) | exact PR.len (fun _ => rfl) | exact SJ.len (fun _ => rfl) | exact spEqB_len) (fun cdv A outer s H vs Q E hr h => ?_), F.bindsN (fun _ _ _ _ _ _ us hl => match us, hl with | [_, _], _ => rfl), F.kp⟩
  obtain ⟨⟨a, c, R, l, hh, pt, o, w'⟩, rfl, ⟨hP, hC, hm⟩, q⟩ := h
  dsimp only at hP hC hm q
  obtain ⟨vo, co, cot⟩ := hC.o
  obtain ⟨vw, cw, cwt⟩ := hC.w
  have mi := hP.ins (m := "inner_stretch") (by simp)
  have mt := hP.ins (m := "turned_stretch") (by simp)
  have mo := hP.ins (m := "once_stretch") (by simp)
  refine ⟨_, (pss_cons (ps_set (i := 2) sc_Pair_stretch_of.nd rfl (Or.inl rfl) (pe_meth0 (pv 0) T.c_Pair T.m_Pair_inner_stretch G_Pair_inner_stretch (hr.mono (by decide)) b_Pair_inner_stretch .nil pass0))
      (pss_cons (ps_if (PW.pt (pw_or (pt_cmpR o_isN (pe_fld (pv 1) rfl) pe_non (nomark _)) (pw_or1 (pt_cmpR o_isN (pe_fld (pv 1) rfl) pe_non (nomark _))))) (pss_one (ps_set (i := 2) sc_Pair_stretch_of.nd rfl (Or.inl rfl) (pe_meth (pv 0) T.c_Pair T.m_Pair_turned_stretch G_Pair_turned_stretch (hr.mono (by decide)) b_Pair_turned_stretch .nil pass0 (pa_cons (pv 1) pa_nil)))) pss_nil)
      (pss_one (ps_ret (pe_ifExp (pt_cmpR o_isN (pe_fld (pv 1) rfl) pe_non (nomark _)) (pv 2) (pe_meth (pv 0) T.c_Pair T.m_Pair_once_stretch G_Pair_once_stretch (hr.mono (by decide)) b_Pair_once_stretch .nil pass0 (pa_cons (pe_fld (pv 1) rfl) (pa_cons (pv 2) pa_nil)))))))), ?_⟩
  walk_at "run"
  cases o with
  | none =>
    obtain rfl : vo = .non := cot
    have hT := casesOf_turn hm (.inl rfl)
    refine iteT ?_
    walk_at "go"
    refine q _ _ ?_ ⟨_, rfl, ?_⟩
    · walk_at "ex"
    · cases w' <;> assumption
  | some b =>
    obtain ⟨to, rfl, cot⟩ := cot
    refine iteF ?_
    walk_at "go"
    cases w' with
    | none =>
      have hT := casesOf_turn hm (.inr rfl)
      refine iteT ?_
      walk_at "go"
      refine q _ _ ?_ ⟨_, rfl, ?_⟩
      · walk_at "ex"
      · assumption
    | some c =>
      refine iteF ?_
      walk_at "go"
      refine q _ _ ?_ ⟨_, rfl, ?_⟩
      · walk_at "ex"
      · assumption
theorem u_stretch_of {a c : Addr} {R : Rl} {l h : Int} {pt : Bool} {o w' : Option Br} {H : Hp} {Q : VK} {E : XK} (hP : PairI K H a R l h) (hC : CaseAt K H c pt o w') (hm : (o, w') ∈ casesOf R) (q : ∀ t H', Ex H H' → SqT K H' t [.int (stO R l h o w').1, .int (stO R l h o w').2] → Q (.ref t) H') : sp_Pair_stretch_of K [.ref a, .ref c] H Q E :=
  ⟨(a, c, R, l, h, pt, o, w'), rfl, ⟨hP, hC, hm⟩, fun v H' e ⟨t, ev, h⟩ => ev ▸ q t H' e h⟩
local macro_rules | `(tactic| walk_at "st") => `(tactic| first
  | ((with_reducible refine' u_stretch_of ?ha ?hb ?hc ?_); (case ha => walk_at "kn"); (case hb => walk_at "kn"); (case hc => assumption); (refine' fun _ _ _ _ => ?_)))

end
end M
namespace M
open PySem PySem.Spec PyProof.Rows L2 Evl
local macro_rules | `(tactic| walk_at "ar") => `(tactic| first | exact rfl | omega | (simp only [List.length_map, List.length_cons, List.length_nil] at *; omega) | decide)
local macro_rules | `(tactic| walk_at "ex") => `(tactic| first | with_reducible assumption | exact Ex.refl _ | (refine' Ex.trans ?a ?b; (case b => with_reducible assumption); (case a => walk_at "ex")) | (refine' Ex.mu2 ?a ?n ?b; (case b => with_reducible assumption); (case n => with_reducible assumption); (case a => walk_at "ex")))
local macro_rules | `(tactic| walk_at "exn") => `(tactic| first | with_reducible assumption | exact ExN.refl _ | (refine' ExN.trans ?a (ExN.of ?b); (case b => with_reducible assumption); (case a => walk_at "exn")) | (refine' ExN.trans ?a ?b; (case b => with_reducible assumption); (case a => walk_at "exn")))
local macro_rules | `(tactic| walk_at "ln") => `(tactic| first | exact rfl | omega | (simp only [scaleF, addF, List.length_map, List.length_zip, List.length_cons, List.length_nil] <;> omega))
local macro_rules | `(tactic| walk_at "kn") => `(tactic| first
  | with_reducible assumption
  | ((with_reducible refine' Fld.mono ?e ?m); (case e => with_reducible assumption); (case m => walk_at "kn"))
  | ((with_reducible refine' Ins.mono ?e ?m); (case e => with_reducible assumption); (case m => walk_at "kn"))
  | ((with_reducible refine' SqT.of ?m); (case m => walk_at "kn"))
  | ((with_reducible refine' SqL.of ?m); (case m => walk_at "kn"))
  | with_reducible exact kn_DEEDS (by assumption)
  | with_reducible exact kn_INNER (by assumption)
  | with_reducible exact kn_ONCE (by assumption)
  | with_reducible exact kn_TWICE (by assumption)
  | ((with_reducible refine' RB.mono ?e ?m); (case e => with_reducible assumption); (case m => walk_at "kn"))
  | ((with_reducible refine' RuleI.mono ?e ?m); (case e => with_reducible assumption); (case m => walk_at "kn"))
  | ((with_reducible refine' TestAt.mono ?e ?m); (case e => with_reducible assumption); (case m => walk_at "kn"))
  | ((with_reducible refine' TO_mono ?e ?m); (case e => with_reducible assumption); (case m => walk_at "kn"))
  | ((with_reducible refine' CaseAt.mono ?e ?m); (case e => with_reducible assumption); (case m => walk_at "kn"))
  | ((with_reducible refine' LT.fair ?e ?m); (case e => with_reducible assumption); (case m => with_reducible assumption))
  | ((with_reducible refine' LT.turn ?e ?m); (case e => with_reducible assumption); (case m => with_reducible assumption))
  | ((with_reducible refine' FormsB.mono ?e ?m); (case e => with_reducible assumption); (case m => walk_at "kn"))
  | ((with_reducible refine' tl_mono ?e ?m); (case e => with_reducible assumption); (case m => walk_at "kn"))
  | ((with_reducible refine' ExN.t ?e ?m); (case e => with_reducible assumption); (case m => walk_at "kn"))
  | ((with_reducible refine' ExN.fld ?e ?m); (case e => with_reducible assumption); (case m => walk_at "kn"))
  | ((with_reducible refine' ExN.ins ?e ?m); (case e => with_reducible assumption); (case m => walk_at "kn"))
  | ((with_reducible refine' RuleI.monoN ?e ?m); (case e => with_reducible assumption); (case m => walk_at "kn"))
  | ((with_reducible refine' TestAt.monoN ?e ?m); (case e => with_reducible assumption); (case m => walk_at "kn"))
  | ((with_reducible refine' CaseAt.monoN ?e ?m); (case e => with_reducible assumption); (case m => walk_at "kn"))
  | ((with_reducible refine' FormsB.monoN ?e ?m); (case e => with_reducible assumption); (case m => walk_at "kn"))
  | ((with_reducible refine' tl_monoN ?e ?m); (case e => with_reducible assumption); (case m => walk_at "kn"))
  | ((with_reducible refine' LT.mono ?e ?m); (case e => with_reducible assumption); (case m => walk_at "kn"))
  | ((with_reducible refine' PairI.mono ?e ?m); (case e => with_reducible assumption); (case m => walk_at "kn"))
  | ((with_reducible refine' ex_t ?e ?m); (case e => with_reducible assumption); (case m => walk_at "kn"))
  | ((with_reducible refine' ex_l ?e ?m); (case e => with_reducible assumption); (case m => walk_at "kn"))
  | ((with_reducible refine' Ex.at ?e ?m); (case e => with_reducible assumption); (case m => walk_at "kn"))
  | ((with_reducible refine' Mu.t ?e ?n ?m); (case e => with_reducible assumption); (case n => with_reducible assumption); (case m => walk_at "kn"))
  | ((with_reducible refine' Mu.lst ?e ?n ?m); (case e => with_reducible assumption); (case n => with_reducible assumption); (case m => walk_at "kn"))
  | ((with_reducible refine' Mu.fld ?e ?n ?m); (case e => with_reducible assumption); (case n => with_reducible assumption); (case m => walk_at "kn")))
local macro_rules | `(tactic| walk_at "st") => `(tactic| first
  | with_reducible refine k_seq ?_
  | with_reducible refine k_asg ?_
  | with_reducible refine k_ret ?_
  | with_reducible refine k_drop ?_
  | with_reducible refine k_ifS ?_
  | with_reducible refine k_name ?_
  | with_reducible refine k_next ?_
  | ((with_reducible refine' k_var ?hv ?_); case hv => exact rfl)
  | with_reducible refine k_c ?_
  | with_reducible refine k_fld ?_
  | ((with_reducible refine' k_fld2 ?hv ?_); case hv => walk_at "kn")
  | with_reducible refine k_op ?_
  | with_reducible refine k_un ?_
  | with_reducible refine k_add ?_
  | with_reducible refine k_sub ?_
  | with_reducible refine k_neg ?_
  | ((with_reducible refine' k_mul ?hv ?_); case hv => first | (left; constructor <;> omega) | (right; constructor <;> omega))
  | ((with_reducible refine' k_fdiv ?hv ?_); case hv => constructor <;> omega)
  | ((with_reducible refine' k_mod ?hv ?_); case hv => omega)
  | with_reducible refine k_lt ?_
  | with_reducible refine k_le ?_
  | with_reducible refine k_gt ?_
  | with_reducible refine k_ge ?_
  | with_reducible refine k_eqI ?_
  | with_reducible refine k_eqT ?_
  | with_reducible refine k_neI ?_
  | with_reducible refine k_isN_int ?_
  | with_reducible refine k_isN_ref ?_
  | with_reducible refine k_isN_non ?_
  | with_reducible refine k_notN_int ?_
  | with_reducible refine k_notN_ref ?_
  | with_reducible refine k_notN_non ?_
  | with_reducible refine k_test ?_
  | with_reducible refine k_B ?_
  | with_reducible refine k_bx ?_
  | with_reducible refine k_not ?_
  | with_reducible refine k_notV ?_
  | with_reducible refine k_and ?_
  | with_reducible refine k_or ?_
  | with_reducible refine k_andV ?_
  | with_reducible refine k_orV ?_
  | with_reducible refine k_if ?_
  | with_reducible refine k_chain ?_
  | with_reducible refine iteT ?_
  | with_reducible refine iteF ?_
  | with_reducible refine k_nil ?_
  | with_reducible refine k_cons ?_
  | with_reducible refine k_tup ?_
  | with_reducible refine k_lst ?_
  | with_reducible refine k_call ?_
  | with_reducible refine k_meth ?_
  | ((with_reducible refine' k_meth2 ?hv ?_); case hv => walk_at "kn")
  | with_reducible refine k_make ?_
  | with_reducible refine k_cb ?_
  | with_reducible refine k_min2 ?_
  | with_reducible refine k_max2 ?_
  | with_reducible refine k_int1 ?_
  | with_reducible refine k_int1b ?_
  | with_reducible refine k_abs1 ?_
  | ((with_reducible refine' k_gtup ?hv ?hw ?_); (case hv => walk_at "kn"); (case hw => rfl))
  | with_reducible refine k_gcons ?_
  | with_reducible refine k_gnil ?_
  | with_reducible refine k_isi_ii ?_
  | with_reducible refine k_isi_ib ?_
  | with_reducible refine k_isi_ss ?_
  | ((with_reducible refine' k_isi_tt ?hv ?_); case hv => walk_at "kn")
  | with_reducible refine iteNT ?_
  | with_reducible refine iteNF ?_
  | with_reducible refine k_cval ?_
  | ((with_reducible refine' k_cval2 ?hv ?_); case hv => exact kn_most (by assumption))
  | with_reducible refine k_lc ?_
  | with_reducible refine k_iT ?_
  | ((with_reducible refine' k_iT2 ?hv ?_); case hv => walk_at "kn")
  | with_reducible refine k_iL ?_
  | ((with_reducible refine' k_iL2 ?hv ?_); case hv => walk_at "kn")
  | with_reducible refine k_i1 ?_
  | ((with_reducible refine' k_i1a ?hv ?_); case hv => constructor <;> omega)
  | with_reducible refine k_i2 ?_
  | ((with_reducible refine' k_i2a ?hv ?_); case hv => refine ⟨?_, ?_, ?_, ?_⟩ <;> omega)
  | with_reducible refine k_iZ ?_
  | ((with_reducible refine' k_iZa ?hv ?hw ?_); (case hv => walk_at "kn"); (case hw => walk_at "kn"))
  | with_reducible refine k_iN ?_
  | ((with_reducible refine' k_lenT ?hv ?_); case hv => walk_at "kn")
  | ((with_reducible refine' k_lenL ?hv ?_); case hv => walk_at "kn")
  | ((with_reducible refine' k_ixT ?hv ?hw ?_); (case hv => walk_at "kn"); (case hw => rfl))
  | ((with_reducible refine' k_tupL ?hv ?_); (case hv => walk_at "kn"); (refine' fun _ _ _ _ _ => ?_))
  | ((with_reducible refine' k_tupT ?hv ?_); (case hv => walk_at "kn"))
  | ((with_reducible refine' k_new ?hv ?_); (case hv => (simp only [List.length_cons, List.length_nil]; exact sze _ (by omega))); (refine' fun _ _ _ _ _ => ?_))
  | ((with_reducible refine' k_isiW ?hT ?hv ?_); (case hT => assumption); (case hv => walk_at "kn"))
  | ((with_reducible refine' k_isiT ?hT ?hv ?_); (case hT => assumption); (case hv => walk_at "kn"))
  | ((with_reducible refine' k_isiC ?hT ?hv ?_); (case hT => assumption); (case hv => walk_at "kn"))
  | ((with_reducible refine' k_isiLT ?hv ?hw ?_); (case hv => walk_at "kn"); (case hw => walk_at "kn"))
  | ((with_reducible refine' k_isN_TO ?hv ?_); (case hv => walk_at "kn"))
  | ((with_reducible refine' k_notN_TO ?hv ?_); (case hv => walk_at "kn"))
  | ((with_reducible refine' k_notInDeeds ?hv ?_); (case hv => walk_at "kn"))
  | with_reducible refine k_eqPut ?_
  | ((refine' k_eqB .inn ?hv ?hw ?hx ?_); (case hv => walk_at "kn"); (case hw => walk_at "kn"); (case hx => rfl))
  | ((refine' k_eqB .lf ?hv ?hw ?hx ?_); (case hv => walk_at "kn"); (case hw => walk_at "kn"); (case hx => rfl))
  | ((refine' k_eqB .ls ?hv ?hw ?hx ?_); (case hv => walk_at "kn"); (case hw => walk_at "kn"); (case hx => rfl))
  | ((refine' k_eqB .ff ?hv ?hw ?hx ?_); (case hv => walk_at "kn"); (case hw => walk_at "kn"); (case hx => rfl))
  | ((refine' k_eqB .fs ?hv ?hw ?hx ?_); (case hv => walk_at "kn"); (case hw => walk_at "kn"); (case hx => rfl))
  | ((refine' k_eqB .tf ?hv ?hw ?hx ?_); (case hv => walk_at "kn"); (case hw => walk_at "kn"); (case hx => rfl))
  | ((with_reducible refine' k_yes ?hv ?_); (case hv => walk_at "ar"))
  | ((with_reducible refine' k_no ?hv ?_); (case hv => walk_at "ar"))
  | ((with_reducible refine' k_nyes ?hv ?_); (case hv => walk_at "ar"))
  | ((with_reducible refine' k_nno ?hv ?_); (case hv => walk_at "ar"))
  | with_reducible refine k_sfld ?_
  | ((with_reducible refine' k_ixL ?hv ?hw ?_); (case hv => walk_at "kn"); (case hw => rfl))
  | ((with_reducible refine' k_sumTu _ ?hv ?_); (case hv => walk_at "kn"))
  | ((with_reducible refine' u_is_integer  ?_); (refine' fun _ _ => ?_))
  | ((with_reducible refine' u_over ?ha ?_); (case ha => constructor <;> omega); (refine' fun _ _ => ?_))
  | ((with_reducible refine' u_is_within ?ha ?_); (case ha => constructor <;> omega); (refine' fun _ _ => ?_))
  | ((with_reducible refine' u_need_plus ?ha ?_); (case ha => constructor <;> omega); (refine' fun _ _ => ?_))
  | ((with_reducible refine' u_need_weight ?ha ?_); (case ha => constructor <;> omega); (refine' fun _ _ => ?_))
  | ((with_reducible refine' u_is_times ?ha ?hb ?_); (case ha => walk_at "kn"); (case hb => refine ⟨⟨?_, ?_⟩, ?_, ?_⟩ <;> omega); (refine' fun _ _ => ?_))
  | ((with_reducible refine' u_beside ?ha ?_); (case ha => walk_at "kn"); (refine' fun _ _ => ?_))
  | ((with_reducible refine' u_greatest ?ha ?hb ?_); (case ha => walk_at "kn"); (case hb => constructor <;> omega); (refine' fun _ _ => ?_))
  | ((with_reducible refine' u_need_weight_rule ?ha ?_); (case ha => walk_at "kn"); (refine' fun _ _ => ?_))
  | ((with_reducible refine' u_need_deed  ?_); (refine' fun _ _ => ?_))
  | ((with_reducible refine' u_has_three ?ha ?_); (case ha => walk_at "kn"); (refine' fun _ _ => ?_))
  | ((with_reducible refine' u_scaled ?ha ?hb ?_); (case ha => walk_at "kn"); (case hb => refine ⟨⟨?_, ?_⟩, ?_⟩ <;> (walk_at "ln")); (refine' fun _ _ _ _ => ?_))
  | ((with_reducible refine' u_added ?ha ?hb ?hc ?_); (case ha => walk_at "kn"); (case hb => walk_at "kn"); (case hc => constructor <;> (walk_at "ln")); (refine' fun _ _ _ _ => ?_))
  | ((with_reducible refine' u_amount ?ha ?hb ?hc ?_); (case ha => walk_at "kn"); (case hb => walk_at "kn"); (case hc => assumption); (refine' fun _ _ => ?_))
  | ((with_reducible refine' u_mk_Test ?ha ?hb ?_); (case ha => walk_at "kn"); (case hb => assumption); (refine' fun _ _ _ _ => ?_))
  | ((with_reducible refine' k_eq1st  ?_))
  | ((with_reducible refine' u_heavy_form ?ha ?_); (case ha => walk_at "kn"); (refine' fun _ _ _ _ => ?_))
  | ((with_reducible refine' u_sides ?ha ?hb ?_); (case ha => walk_at "kn"); (case hb => assumption); (refine' fun _ _ _ _ _ _ _ _ => ?_))
  | ((with_reducible refine' u_fair_tests ?ha ?hb ?hc ?hd ?_); (case ha => walk_at "kn"); (case hb => walk_at "kn"); (case hc => walk_at "kn"); (case hd => assumption); (refine' fun _ _ _ _ _ _ => ?_))
  | ((with_reducible refine' u_unfair_test ?ha ?hb ?hc ?hd ?_); (case ha => walk_at "kn"); (case hb => walk_at "kn"); (case hc => walk_at "kn"); (case hd => assumption); (refine' fun _ _ _ _ => ?_))
  | ((with_reducible refine' k_eq1st  ?_))
  | ((with_reducible refine' u_turn_tests ?ha ?hb ?_); (case ha => walk_at "kn"); (case hb => walk_at "kn"); (refine' fun _ _ _ _ _ _ => ?_))
  | ((with_reducible refine' u_break_test ?ha ?hb ?hc ?hd ?_); (case ha => walk_at "kn"); (case hb => walk_at "kn"); (case hc => walk_at "kn"); (case hd => assumption); (refine' fun _ _ _ _ => ?_))
  | ((with_reducible refine' k_ifv ?ha ?hb ?_); (case ha => exact rfl); (case hb => exact rfl))
  | ((with_reducible refine' k_apT ?ha ?hb ?hc ?_); (case ha => walk_at "kn"); (case hb => omega); (case hc => first | with_reducible assumption | (with_reducible exact TL.mk2 (by assumption)) | (with_reducible exact TL.mk (by assumption))); (refine' fun _ _ _ _ => ?_))
  | ((with_reducible refine' k_exT ?ha ?hb ?hc ?_); (case ha => walk_at "kn"); (case hb => walk_at "kn"); (case hc => omega); (refine' fun _ _ _ _ => ?_))
  | ((with_reducible refine' k_bm  ?_))
  | ((with_reducible refine' k_bmL ?ha ?_); (case ha => walk_at "kn"))
  | ((with_reducible refine' k_tupLT ?ha ?_); (case ha => walk_at "kn"); (refine' fun _ _ _ _ _ _ => ?_))
  | ((with_reducible refine' u_mk_Case ?ha ?hb ?_); (case ha => walk_at "kt"); (case hb => walk_at "kt"); (refine' fun _ _ _ _ => ?_))
  | ((with_reducible refine' k_bmL1 ?ha ?_); (case ha => walk_at "kn"))
  | ((with_reducible refine' k_for  ?_))
  | ((with_reducible refine' u_all_cases ?ha ?_); (case ha => walk_at "kn"); (refine' fun _ _ _ _ _ _ => ?_))
  | ((with_reducible refine' u_need_case ?ha ?hb ?hc ?_); (case ha => walk_at "kn"); (case hb => walk_at "kn"); (case hc => assumption); (refine' fun _ _ => ?_))
  | ((with_reducible refine' u_tests_in ?ha ?hb ?hc ?_); (case ha => walk_at "kn"); (case hb => walk_at "kn"); (case hc => assumption); (refine' fun _ _ _ _ _ _ => ?_))
  | ((with_reducible refine' k_callI0  ?_))
  | ((with_reducible refine' k_callI1  ?_))
  | ((with_reducible refine' k_gfld  ?_))
  | ((with_reducible refine' u_inner_stretch ?ha ?_); (case ha => walk_at "kn"); (refine' fun _ _ _ _ => ?_))
  | ((with_reducible refine' u_turned_stretch ?ha ?hb ?hc ?_); (case ha => walk_at "kn"); (case hb => walk_at "kn"); (case hc => assumption); (refine' fun _ _ _ _ => ?_))
  | ((with_reducible refine' u_once_stretch ?ha ?hb ?hc ?_); (case ha => walk_at "kn"); (case hb => walk_at "kn"); (case hc => walk_at "kn"); (refine' fun _ _ _ _ => ?_))
  | ((with_reducible refine' u_near_stretch ?ha ?hb ?_); (case ha => walk_at "kn"); (case hb => walk_at "kn"); (refine' fun _ _ _ _ => ?_))
  | ((with_reducible refine' u_near_for ?ha ?hb ?_); (case ha => walk_at "kn"); (case hb => walk_at "kn"); (refine' fun _ _ => ?_))
  | ((with_reducible refine' k_isN_oV  ?_))
  | ((with_reducible refine' k_notN_oV  ?_))
  | ((with_reducible refine' u_stretch_of ?ha ?hb ?hc ?_); (case ha => walk_at "kn"); (case hb => walk_at "kn"); (case hc => assumption); (refine' fun _ _ _ _ => ?_)))
local macro_rules | `(tactic| walk_at "go") => `(tactic| repeat (walk_at "st"))
local macro_rules | `(tactic| walk_at "run") => `(tactic| (dsimp only [cxK]; walk_at "go"))

section
variable {P : Program} {w : World} {K : PySem.W.Frag} {mg : Str → Option Value} {base : Heap}
def sp_Pair_can_break (K : PySem.W.Frag) : Sp := SV (fun i : Addr × Addr × Rl × Int × Int × Bool × Option Br × Option Br => [.ref i.1, .ref i.2.1]) (fun i H => PairI K H i.1 i.2.2.1 i.2.2.2.1 i.2.2.2.2.1 ∧ CaseAt K H i.2.1 i.2.2.2.2.2.1 i.2.2.2.2.2.2.1 i.2.2.2.2.2.2.2 ∧ (i.2.2.2.2.2.2.1, i.2.2.2.2.2.2.2) ∈ casesOf i.2.2.1)
  fun i => .bl (canB i.2.2.1 i.2.2.2.1 i.2.2.2.2.1 i.2.2.2.2.2.2.1 i.2.2.2.2.2.2.2)
theorem ok_Pair_can_break (T : TX K mg) : Ok P w K mg base 9 (He.ma K (He.ga K "Pair") "can_break") ["self", "case"] (sp_Pair_can_break K) := by
  obtain ⟨fd, F⟩ := T.F_Pair_can_break
  obtain ⟨_, G_Pair_stretch_of, b_Pair_stretch_of, k_Pair_stretch_of⟩ := ok_Pair_stretch_of (P := P) (w := w) (base := base) T
  obtain ⟨_, G_Pair_near_for, b_Pair_near_for, k_Pair_near_for⟩ := ok_Pair_near_for (P := P) (w := w) (base := base) T
  refine ⟨fd, okN F sc_Pair_can_break (by first | exact SV.len (fun _ => rfl) | exact PR.len (fun _ => rfl) | exact SJ.len (fun _ => rfl) | exact spEqB_len) (fun cdv A outer s H vs Q E hr h => ?_), F.bindsN (fun _ _ _ _ _ _ us hl => match us, hl with | [_, _], _ => rfl), F.kp⟩
  obtain ⟨⟨a, c, R, l, hh, pt, o, w'⟩, rfl, ⟨hP, hC, hm⟩, q⟩ := h
  dsimp only at hP hC hm q
  obtain ⟨vw, cw, cwt⟩ := hC.w
  have mi := hP.ins (m := "stretch_of") (by simp)
  have mt := hP.ins (m := "near_for") (by simp)
  unfold canB at q
  refine ⟨_, (pss_cons (ps_asg (pe_meth (pv 0) T.c_Pair T.m_Pair_stretch_of G_Pair_stretch_of (hr.mono (by decide)) b_Pair_stretch_of .nil pass0 (pa_cons (pv 1) pa_nil)) (pg_tupK K 2 rfl rfl (pgs_cons (pg_name (i := 3) sc_Pair_can_break.nd rfl (by first | exact Or.inl rfl | exact Or.inr rfl)) (pgs_cons (pg_name (i := 4) sc_Pair_can_break.nd rfl (by first | exact Or.inl rfl | exact Or.inr rfl)) pgs_nil)) rfl rfl))
      (pss_cons (ps_if (pt_cmpR op_gt (pv 3) (pv 4) (nomark _)) (pss_one (ps_ret pe_bl)) pss_nil)
      (pss_cons (ps_if (pt_cmpR o_isN (pe_fld (pv 1) rfl) pe_non (nomark _)) (pss_one (ps_ret pe_bl)) pss_nil)
      (pss_cons (ps_if (pt_cmpR (op_eqD (room64 hr)) (pe_fld (pv 1) rfl) (pe_glob (v := .ref (He.ga K "INNER")) (by rfl) T.g_INNER rfl) (nomark _)) (pss_one (ps_ret (pe_cmpR op_le (pv 3) pe_int (nomark _)))) pss_nil)
      (pss_cons (ps_set (i := 2) sc_Pair_can_break.nd rfl (Or.inl rfl) (pe_ifExp (pt_cmpR (op_inT (room65 hr)) (pe_fld (pv 1) rfl) (pe_tup (pa_cons (pe_tup (pa_cons pe_str (pa_cons pe_str pa_nil))) (pa_cons (pe_tup (pa_cons pe_str (pa_cons pe_str pa_nil))) (pa_cons (pe_tup (pa_cons pe_str (pa_cons pe_str pa_nil))) pa_nil)))) rfl) (pe_callB (c_max2 rfl) (by rfl) T.n_max (by decide +kernel) (pa_cons pe_int (pa_cons (pv 3) pa_nil))) (pv 4)))
      (pss_one (ps_ret (pe_and (pe_chain op_lt op_le pe_int (pv 2) (pv 4)) (pe_one (pe_cmpR o_notN (pe_meth (pv 0) T.c_Pair T.m_Pair_near_for G_Pair_near_for (hr.mono (by decide)) b_Pair_near_for .nil pass0 (pa_cons (pe_fld (pv 1) rfl) (pa_cons (pv 2) pa_nil))) pe_non (nomark _))))))))))), ?_⟩
  walk_at "run"
  refine k_dec (fun e => ?_) (fun e => ?_)
  · rw [if_pos e] at q
    walk_at "go"
    refine q _ ?_
    walk_at "ex"
  rw [if_neg e] at q
  walk_at "go"
  cases w' with
  | none =>
    refine iteT ?_
    walk_at "go"
    refine q _ ?_
    walk_at "ex"
  | some b =>
    obtain ⟨tb, rfl, cwt⟩ := cwt
    refine iteF ?_
    walk_at "go"
    refine k_dec (fun e1 => ?_) (fun e1 => ?_)
    · subst e1
      walk_at "go"
      refine q _ ?_
      walk_at "ex"
    · walk_at "go"
      refine k_inSm (b := b) (x1 := [V.str "light", V.str "first"]) (x2 := [V.str "far", V.str "second"]) (x3 := [V.str "top", V.str "second"]) (by walk_at "kn") (SqT.of (by walk_at "kn")) (SqT.of (by walk_at "kn")) (SqT.of (by walk_at "kn")) (SqT.of (by walk_at "kn")) rfl rfl rfl ?_
      walk_at "go"
      have q : ∀ H', Ex H H' → Q (.bl (decide (1 < worst R l hh o b ∧ worst R l hh o b ≤ (stO R l hh o (some b)).2) && (nrF R l hh b (worst R l hh o b)).isSome)) H' := by
        cases b <;> first | exact absurd rfl e1 | exact q
      cases hs : small b with
      | true =>
        have ew : worst R l hh o b = max 2 (stO R l hh o (some b)).1 := by simp [worst, hs]
        rw [ew] at q
        refine iteT ?_
        walk_at "go"
        refine k_dec (fun g => ?_) (fun g => ?_)
        · rw [decide_eq_true (show 1 < max 2 (stO R l hh o (some b)).1 ∧ max 2 (stO R l hh o (some b)).1 ≤ (stO R l hh o (some b)).2 from ⟨by omega, g⟩), Bool.true_and] at q
          walk_at "go"
          refine q _ ?_
          walk_at "ex"
        · rw [decide_eq_false (show ¬ (1 < max 2 (stO R l hh o (some b)).1 ∧ max 2 (stO R l hh o (some b)).1 ≤ (stO R l hh o (some b)).2) from fun z => g z.2), Bool.false_and] at q
          refine q _ ?_
          walk_at "ex"
      | false =>
        have ew : worst R l hh o b = (stO R l hh o (some b)).2 := by simp [worst, hs]
        rw [ew] at q
        refine iteF ?_
        walk_at "go"
        refine k_dec (fun g => ?_) (fun g => ?_)
        · rw [decide_eq_true (show 1 < (stO R l hh o (some b)).2 ∧ (stO R l hh o (some b)).2 ≤ (stO R l hh o (some b)).2 from ⟨g, Int.le_refl _⟩), Bool.true_and] at q
          walk_at "go"
          refine q _ ?_
          walk_at "ex"
        · rw [decide_eq_false (show ¬ (1 < (stO R l hh o (some b)).2 ∧ (stO R l hh o (some b)).2 ≤ (stO R l hh o (some b)).2) from fun z => g z.1), Bool.false_and] at q
          walk_at "go"
          refine q _ ?_
          walk_at "ex"
theorem u_can_break {a c : Addr} {R : Rl} {l h : Int} {pt : Bool} {o w' : Option Br} {H : Hp} {Q : VK} {E : XK} (hP : PairI K H a R l h) (hC : CaseAt K H c pt o w') (hm : (o, w') ∈ casesOf R) (q : ∀ H', Ex H H' → Q (.bl (canB R l h o w')) H') : sp_Pair_can_break K [.ref a, .ref c] H Q E :=
  ⟨(a, c, R, l, h, pt, o, w'), rfl, ⟨hP, hC, hm⟩, q⟩
local macro_rules | `(tactic| walk_at "st") => `(tactic| first
  | ((with_reducible refine' u_can_break ?ha ?hb ?hc ?_); (case ha => walk_at "kn"); (case hb => walk_at "kn"); (case hc => assumption); (refine' fun _ _ => ?_)))
/-! numbers_for -/
def sp_Pair_numbers_for (K : PySem.W.Frag) : Sp := PR (fun i : Addr × Addr × Rl × Int × Int × Bool × Option Br × Option Br => [.ref i.1, .ref i.2.1]) (fun i H => PairI K H i.1 i.2.2.1 i.2.2.2.1 i.2.2.2.2.1 ∧ CaseAt K H i.2.1 i.2.2.2.2.2.1 i.2.2.2.2.2.2.1 i.2.2.2.2.2.2.2 ∧ (i.2.2.2.2.2.2.1, i.2.2.2.2.2.2.2) ∈ casesOf i.2.2.1 ∧ canB i.2.2.1 i.2.2.2.1 i.2.2.2.2.1 i.2.2.2.2.2.2.1 i.2.2.2.2.2.2.2 = true)
  fun i _ v H' => ∃ t xs, v = .ref t ∧ SqT K H' t (xs.map V.int) ∧ Nums i.2.2.1 i.2.2.2.1 i.2.2.2.2.1 i.2.2.2.2.2.2.1 i.2.2.2.2.2.2.2 xs
theorem canB_le {R : Rl} {l h : Int} {o w' : Option Br} (hb : canB R l h o w' = true) : (stO R l h o w').1 ≤ (stO R l h o w').2 := by
  unfold canB at hb
  by_cases e : (stO R l h o w').2 < (stO R l h o w').1
  · rw [if_pos e] at hb
    cases hb
  · omega
theorem canB_b {R : Rl} {l h : Int} {o : Option Br} {b : Br} (hb : canB R l h o (some b) = true) (ni : b ≠ .inn) : 1 < worst R l h o b ∧ worst R l h o b ≤ (stO R l h o (some b)).2 ∧ (nrF R l h b (worst R l h o b)).isSome = true := by
  have le := canB_le hb
  unfold canB at hb
  rw [if_neg (by omega)] at hb
  have hb : (decide (1 < worst R l h o b ∧ worst R l h o b ≤ (stO R l h o (some b)).2) && (nrF R l h b (worst R l h o b)).isSome) = true := by
    cases b <;> first | exact absurd rfl ni | exact hb
  rw [Bool.and_eq_true, decide_eq_true_iff] at hb
  exact ⟨hb.1.1, hb.1.2, hb.2⟩
theorem nrF_some {R : Rl} {l h c e : Int} {b : Br} (hn : nrF R l h b c = some e) : (nrS R l h b c).1 ≤ e ∧ e ≤ (nrS R l h b c).2 := by
  unfold nrF at hn
  split at hn
  · cases hn
    rename_i g
    exact ⟨Int.le_refl _, g⟩
  · cases hn
theorem ok_Pair_numbers_for (T : TX K mg) : Ok P w K mg base 9 (He.ma K (He.ga K "Pair") "numbers_for") ["self", "case"] (sp_Pair_numbers_for K) := by
  obtain ⟨fd, F⟩ := T.F_Pair_numbers_for
  obtain ⟨_, G_Pair_stretch_of, b_Pair_stretch_of, k_Pair_stretch_of⟩ := ok_Pair_stretch_of (P := P) (w := w) (base := base) T
  obtain ⟨_, G_Pair_near_for, b_Pair_near_for, k_Pair_near_for⟩ := ok_Pair_near_for (P := P) (w := w) (base := base) T
  refine ⟨fd, okN F sc_Pair_numbers_for (by first | exact SV.len (fun _ => rfl) | exact PR.len (fun _ => rfl) | exact SJ.len (fun _ => rfl) | exact spEqB_len) (fun cdv A outer s H vs Q E hr h => ?_), F.bindsN (fun _ _ _ _ _ _ us hl => match us, hl with | [_, _], _ => rfl), F.kp⟩
  obtain ⟨⟨a, c, R, l, hh, pt, o, w'⟩, rfl, ⟨hP, hC, hm, hb⟩, q⟩ := h
  dsimp only at hP hC hm hb q
  obtain ⟨vw, cw, cwt⟩ := hC.w
  have mi := hP.ins (m := "stretch_of") (by simp)
  have mt := hP.ins (m := "near_for") (by simp)
  have f1 := hP.light
  have f2 := hP.heavy
  have le := canB_le hb
  refine ⟨_, (pss_cons (ps_asg (pe_meth (pv 0) T.c_Pair T.m_Pair_stretch_of G_Pair_stretch_of (hr.mono (by decide)) b_Pair_stretch_of .nil pass0 (pa_cons (pv 1) pa_nil)) (pg_tupK K 2 rfl rfl (pgs_cons (pg_name (i := 2) sc_Pair_numbers_for.nd rfl (by first | exact Or.inl rfl | exact Or.inr rfl)) (pgs_cons (pg_name (i := 4) sc_Pair_numbers_for.nd rfl (by first | exact Or.inl rfl | exact Or.inr rfl)) pgs_nil)) rfl rfl))
      (pss_cons (ps_if (PW.pt (pw_or (pt_cmpR o_isN (pe_fld (pv 1) rfl) pe_non (nomark _)) (pw_or1 (pt_cmpR (op_eqD (room64 hr)) (pe_fld (pv 1) rfl) (pe_glob (v := .ref (He.ga K "INNER")) (by rfl) T.g_INNER rfl) (nomark _))))) (pss_one (ps_ret (pe_tup (pa_cons (pe_fld (pv 0) rfl) (pa_cons (pv 2) (pa_cons (pe_op op_sub (pe_fld (pv 0) rfl) (pv 2)) pa_nil)))))) pss_nil)
      (pss_cons (ps_set (i := 2) sc_Pair_numbers_for.nd rfl (Or.inl rfl) (pe_callB (c_max2 rfl) (by rfl) T.n_max (by decide +kernel) (pa_cons pe_int (pa_cons (pe_callTy (c_int1) (by rfl) T.n_int (by decide +kernel) (pa_cons (pv 2) pa_nil)) pa_nil))))
      (pss_cons (ps_if (pt_cmpR o_isN (pe_meth (pv 0) T.c_Pair T.m_Pair_near_for G_Pair_near_for (hr.mono (by decide)) b_Pair_near_for .nil pass0 (pa_cons (pe_fld (pv 1) rfl) (pa_cons (pv 2) pa_nil))) pe_non (nomark _)) (pss_cons (ps_set (i := 5) sc_Pair_numbers_for.nd rfl (Or.inl rfl) (pv 2))
      (pss_cons (ps_set (i := 2) sc_Pair_numbers_for.nd rfl (Or.inl rfl) (pv 4))
      (pss_one (ps_while PassesOwn.never (pt_cmpR op_gt (pe_op op_sub (pv 2) (pv 5)) pe_int (nomark _)) (pss_cons (ps_set (i := 6) sc_Pair_numbers_for.nd rfl (Or.inl rfl) (pe_op op_fdivN (pe_op op_add (pv 5) (pv 2)) pe_int))
      (pss_one (ps_if (pt_cmpR o_isN (pe_meth (pv 0) T.c_Pair T.m_Pair_near_for G_Pair_near_for (hr.mono (by decide)) b_Pair_near_for .nil pass0 (pa_cons (pe_fld (pv 1) rfl) (pa_cons (pv 6) pa_nil))) pe_non (nomark _)) (pss_one (ps_set (i := 5) sc_Pair_numbers_for.nd rfl (Or.inl rfl) (pv 6))) (pss_one (ps_set (i := 2) sc_Pair_numbers_for.nd rfl (Or.inl rfl) (pv 6)))))))))) pss_nil)
      (pss_cons (ps_set (i := 3) sc_Pair_numbers_for.nd rfl (Or.inl rfl) (pe_meth (pv 0) T.c_Pair T.m_Pair_near_for G_Pair_near_for (hr.mono (by decide)) b_Pair_near_for .nil pass0 (pa_cons (pe_fld (pv 1) rfl) (pa_cons (pv 2) pa_nil))))
      (pss_one (ps_ret (pe_tup (pa_cons (pe_fld (pv 0) rfl) (pa_cons (pv 3) (pa_cons (pe_op op_sub (pv 2) (pv 3)) (pa_cons (pe_op op_sub (pe_fld (pv 0) rfl) (pv 2)) pa_nil)))))))))))), ?_⟩
  walk_at "run"
  cases w' with
  | none =>
    refine iteT ?_
    walk_at "go"
    refine q _ _ ?_ ⟨_, [l, (stO R l hh o none).1, hh - (stO R l hh o none).1], rfl, SqT.of (by assumption), _, Int.le_refl _, le, .inl ⟨.inl rfl, rfl⟩⟩
    walk_at "ex"
  | some b =>
    obtain ⟨tb, rfl, cwt⟩ := cwt
    refine iteF ?_
    walk_at "go"
    refine k_dec (fun e1 => ?_) (fun e1 => ?_)
    · subst e1
      walk_at "go"
      have l1 : (stO R l hh o (some .inn)).1 ≤ 1 := by
        unfold canB at hb
        rw [if_neg (by omega)] at hb
        exact of_decide_eq_true hb
      refine q _ _ ?_ ⟨_, [l, (stO R l hh o (some .inn)).1, hh - (stO R l hh o (some .inn)).1], rfl, SqT.of (by assumption), _, Int.le_refl _, le, .inl ⟨.inr ⟨rfl, l1⟩, rfl⟩⟩
      walk_at "ex"
    · obtain ⟨w1, w2, w3⟩ := canB_b hb e1
      have hmx : max 2 (stO R l hh o (some b)).1 ≤ (stO R l hh o (some b)).2 := by
        cases hs : small b <;> simp only [worst, hs, if_true, if_false, Bool.false_eq_true] at w1 w2 <;> omega
      walk_at "go"
      cases hn : nrF R l hh b (max 2 (stO R l hh o (some b)).1) with
      | some e =>
        refine iteF ?_
        walk_at "go"
        obtain ⟨n1, n2⟩ := nrF_some hn
        rw [hn]
        dsimp only [oV]
        walk_at "go"
        refine q _ _ ?_ ⟨_, [l, e, max 2 (stO R l hh o (some b)).1 - e, hh - max 2 (stO R l hh o (some b)).1], rfl, SqT.of (by assumption), max 2 (stO R l hh o (some b)).1, by omega, by omega, .inr ⟨b, e, rfl, e1, by omega, n1, n2, rfl⟩⟩
        walk_at "ex"
      | none =>
        have ws : worst R l hh o b = (stO R l hh o (some b)).2 := by
          unfold worst
          split
          · rename_i hs
            unfold worst at w3
            rw [if_pos hs, hn] at w3
            cases w3
          · rfl
        rw [ws] at w1 w2 w3
        have hne : max 2 (stO R l hh o (some b)).1 ≠ (stO R l hh o (some b)).2 := fun z => by
          rw [← z, hn] at w3
          cases w3
        refine iteT ?_
        walk_at "go"
        refine while_by (fun σ' H' => ∃ i d m, σ' = [some (.ref a), some (.ref c), some (.int i), none, some (.int (stO R l hh o (some b)).2), some (.int d), m] ∧ Ex H H' ∧ max 2 (stO R l hh o (some b)).1 ≤ d ∧ d < i ∧ i ≤ (stO R l hh o (some b)).2 ∧ (nrF R l hh b i).isSome = true)
          (fun σ' _ => match σ'[2]?, σ'[5]? with
            | some (some (V.int i)), some (some (V.int d)) => (i - d).toNat
            | _, _ => 0) ⟨_, _, none, rfl, by walk_at "ex", Int.le_refl _, by omega, Int.le_refl _, w3⟩ (fun σ' H' hI => ?_) (fun σ' H' Q1 Q2 hq hc => ?_)
        · obtain ⟨i, d, m, rfl, eI, h1, h2, h3, h4⟩ := hI
          walk_at "go"
          refine k_dec (fun g => ?_) (fun g => ?_)
          · walk_at "go"
            cases hm2 : nrF R l hh b ((d + i) / 2) with
            | none =>
              refine iteT ?_
              walk_at "go"
              refine ⟨⟨i, (d + i) / 2, _, rfl, by walk_at "ex", by omega, by omega, h3, h4⟩, ?_⟩
              show (i - (d + i) / 2).toNat < (i - d).toNat
              omega
            | some e =>
              refine iteF ?_
              walk_at "go"
              refine ⟨⟨(d + i) / 2, d, _, rfl, by walk_at "ex", h1, by omega, by omega, by rw [hm2]; rfl⟩, ?_⟩
              show ((d + i) / 2 - d).toNat < (i - d).toNat
              omega
          · obtain ⟨e, hn⟩ := Option.isSome_iff_exists.mp h4
            walk_at "go"
            obtain ⟨n1, n2⟩ := nrF_some hn
            rw [hn]
            dsimp only [oV]
            walk_at "go"
            refine q _ _ ?_ ⟨_, [l, e, i - e, hh - i], rfl, SqT.of (by assumption), i, by omega, by omega, .inr ⟨b, e, rfl, e1, by omega, n1, n2, rfl⟩⟩
            walk_at "ex"
        · obtain ⟨x, hx, y, hy, i, j, e2, e3, i2, j2, e4, e5, k, hk, hQ⟩ := hc
          exact ⟨x, hx, y, hy, i, j, e2, e3, i2, j2, e4, e5, k, hk, hq _ _ hQ⟩
theorem u_numbers_for {a c : Addr} {R : Rl} {l h : Int} {pt : Bool} {o w' : Option Br} {H : Hp} {Q : VK} {E : XK} (hP : PairI K H a R l h) (hC : CaseAt K H c pt o w') (hm : (o, w') ∈ casesOf R) (hb : canB R l h o w' = true) (q : ∀ t xs H', Ex H H' → SqT K H' t (xs.map V.int) → Nums R l h o w' xs → Q (.ref t) H') : sp_Pair_numbers_for K [.ref a, .ref c] H Q E :=
  ⟨(a, c, R, l, h, pt, o, w'), rfl, ⟨hP, hC, hm, hb⟩, fun v H' e ⟨t, xs, ev, h1, h2⟩ => ev ▸ q t xs H' e h1 h2⟩
local macro_rules | `(tactic| walk_at "st") => `(tactic| first
  | ((with_reducible refine' u_numbers_for ?ha ?hb ?hc ?hd ?_); (case ha => walk_at "kn"); (case hb => walk_at "kn"); (case hc => assumption); (case hd => assumption); (refine' fun _ _ _ _ _ _ => ?_)))

end
end M
namespace M
open PySem PySem.Spec PyProof.Rows L2 Evl
section
variable {K : PySem.W.Frag} {H : Hp} {σ : L2.St} {ta tb : TE} {Q : VK}
def LRg (x y : V) (H : Hp) (Q : VK) : Prop := ∃ i j, x = .int i ∧ y = .int j ∧ RgOk i j ∧ ∀ q, H q = none → Q (.ref q) (upd H q (.lst (rgV i j)))
theorem k_lrg (h : ta σ H fun x H1 => tb σ H1 fun y H2 => LRg x y H2 Q) : tLstRg (tRg2 ta tb) σ H Q := by
  have e : (fun x H1 => tb σ H1 fun y H2 => LRg x y H2 Q) = (fun x H1 => tb σ H1 fun y H2 => ∃ i j, x = V.int i ∧ y = V.int j ∧ (RgOk i j ∧ ∀ q, H2 q = none → Q (.ref q) (upd H2 q (.lst (rgV i j))))) := rfl
  exact h
theorem k_lrg2 {i j : Int} (hr : RgOk i j) (q : ∀ l H', Ex H H' → H' l = some (.lst (rgV i j)) → Q (.ref l) H') : LRg (.int i) (.int j) H Q :=
  ⟨i, j, rfl, rfl, hr, fun l hl => q l _ (Ex.new hl) upd_same⟩
theorem k_inRg {i j h : Int} {l : Addr} (hl : H l = some (.lst (rgV i j))) (q : Q (.bl (decide (i ≤ h ∧ h < j))) H) : rIn K false (.int h) (.ref l) H Q := by
  refine ⟨l, _, rfl, .inl (SqL.of hl), rfl, ?_, ?_⟩
  · rw [List.all_eq_true]
    intro v hv
    obtain ⟨n, _, rfl⟩ := List.mem_map.mp hv
    rfl
  · have e : inV (.int h) (rgV i j) = decide (i ≤ h ∧ h < j) := by
      rw [Bool.eq_iff_iff, decide_eq_true_iff, inV, List.any_eq_true]
      constructor
      · rintro ⟨v, hv, e⟩
        obtain ⟨n, hn, rfl⟩ := List.mem_map.mp hv
        have e2 : (i + (n : Int) == h) = true := e
        have e3 := eq_of_beq e2
        have := List.mem_range.mp hn
        omega
      · rintro ⟨h1, h2⟩
        refine ⟨.int (i + ((h - i).toNat : Nat)), List.mem_map.mpr ⟨(h - i).toNat, List.mem_range.mpr (by omega), rfl⟩, ?_⟩
        show (i + ((h - i).toNat : Int) == h) = true
        rw [beq_iff_eq]
        omega
    rw [e]
    exact q
end
theorem b_bd {R : Rl} {l : Int} (ok : R.Ok) (h1 : 1 ≤ l) (h2 : l ≤ 1000) : 2 ≤ R.b l ∧ R.b l ≤ 6 * l + 6 := by
  have q1 := ok.q1
  have qp := ok.qp
  have p6 := ok.p6
  have hv := ok.hv
  have k6 := ok.k6
  have g1 : R.p * 1 ≤ R.p * l := Int.mul_le_mul_of_nonneg_left h1 (by omega)
  have g2 : R.p * l ≤ 6 * l := Int.mul_le_mul_of_nonneg_right p6 (by omega)
  unfold Rl.b
  refine ⟨(le_div (by omega)).mpr (by omega), Int.le_trans (Int.ediv_le_self _ (by omega)) (by omega)⟩
theorem b_mono {R : Rl} {l m : Int} (ok : R.Ok) (h : l ≤ m) : R.b l ≤ R.b m := by
  have q1 := ok.q1
  have qp := ok.qp
  have g1 : R.p * l ≤ R.p * m := Int.mul_le_mul_of_nonneg_left h (by omega)
  exact Int.ediv_le_ediv (by omega) (by omega)
/-- heavier weights that are asked of -/
def HW (R : Rl) (pt : Bool) (l h : Int) : Prop := R.b l + 1 ≤ h ∧ h < (if pt then R.b l + 1 + 1 else R.b (l + 1) + 1)
instance (R : Rl) (pt : Bool) (l h : Int) : Decidable (HW R pt l h) := inferInstanceAs (Decidable (_ ∧ _))
structure WrongAt (K : PySem.W.Frag) (H : Hp) (a : Addr) (pt : Bool) (o w : Option Br) (xs : List Int) : Prop where
  d : Fld K H a "deed" (.str (dS pt))
  o : ∃ v, Fld K H a "once" v ∧ TO K H v o
  w : ∃ v, Fld K H a "twice" v ∧ TO K H v w
  n : ∃ t, Fld K H a "numbers" (.ref t) ∧ SqT K H t (xs.map V.int)
theorem WrongAt.mono {K : PySem.W.Frag} {H H' : Hp} {a : Addr} {pt : Bool} {o w : Option Br} {xs : List Int} (e : Ex H H') (h : WrongAt K H a pt o w xs) : WrongAt K H' a pt o w xs where
  d := h.d.mono e
  o := let ⟨v, h1, h2⟩ := h.o; ⟨v, h1.mono e, TO_mono e h2⟩
  w := let ⟨v, h1, h2⟩ := h.w; ⟨v, h1.mono e, TO_mono e h2⟩
  n := let ⟨t, h1, h2⟩ := h.n; ⟨t, h1.mono e, ex_t e h2⟩
/-- what wrong_at says -/
def WA (K : PySem.W.Frag) (R : Rl) (pt : Bool) (l h : Int) (v : V) (H : Hp) : Prop := (v = .non ∧ ∀ c ∈ casesOf R, canB R l h c.1 c.2 = false) ∨ ∃ a o w xs, v = .ref a ∧ (o, w) ∈ casesOf R ∧ WrongAt K H a pt o w xs ∧ Nums R l h o w xs
/-- what breaks says -/
def BK (K : PySem.W.Frag) (R : Rl) (pt : Bool) (l h : Int) (v : V) (H : Hp) : Prop := (v = .non ∧ (HW R pt l h → ∀ c ∈ casesOf R, canB R l h c.1 c.2 = false)) ∨ (HW R pt l h ∧ ∃ a o w xs, v = .ref a ∧ (o, w) ∈ casesOf R ∧ WrongAt K H a pt o w xs ∧ Nums R l h o w xs)
theorem dS_dec (pt : Bool) : decide (dS pt = Str.ofString "put") = pt := by cases pt <;> decide +kernel
end M
namespace M
section
variable {R : Rl} {l h : Int}
def onB : Br → Bool
  | .lf => true
  | .ls => true
  | .tf => true
  | .ts => true
  | _ => false
/-- the try rule as it stands, with a turn -/
def Rl.turned (R : Rl) (t s r : Int) : Rl := { R with turn := some (t, s, r) }
theorem Rl.turned_ok {t s r : Int} (ok : R.Ok) (g : 1 ≤ t ∧ t ≤ 8 ∧ 1 ≤ s ∧ s ≤ 8 ∧ -6 ≤ r ∧ r ≤ 6) : (R.turned t s r).Ok :=
  ⟨ok.q1, ok.qp, ok.p6, ok.k1, ok.k6, ok.hv, fun t' s' r' e => by
    have e2 : some (t, s, r) = some (t', s', r') := e
    cases e2
    exact g⟩
theorem inS_turned {t s r : Int} : inS (R.turned t s r) h = inS R h := rfl
theorem onS_turned {t s r : Int} {b : Br} {st : Int × Int} : onS (R.turned t s r) l h b st = onS R l h b st := by cases b <;> rfl
theorem nrS_turned {t s r c : Int} {b : Br} : nrS (R.turned t s r) l h b c = nrS R l h b c := by cases b <;> rfl
theorem nrF_turned {t s r c : Int} {b : Br} : nrF (R.turned t s r) l h b c = nrF R l h b c := by
  unfold nrF
  rw [nrS_turned]
/-- a break of a try rule stands in a turn rule: either its break of one turn, or its break of two -/
theorem turned_breaks {t s r c : Int} {o w : Br} (ok : R.Ok) (g : 1 ≤ t ∧ t ≤ 8 ∧ 1 ≤ s ∧ s ≤ 8 ∧ -6 ≤ r ∧ r ≤ 6)
    (hc : (stO R l h (some o) (some w)).1 ≤ c ∧ c ≤ (stO R l h (some o) (some w)).2) (hw : (w = .inn ∧ c ≤ 1) ∨ (w ≠ .inn ∧ 2 ≤ c ∧ NE R l h w c)) :
    canB (R.turned t s r) l h (some o) none = true ∨ canB (R.turned t s r) l h none (some w) = true := by
  have okT := Rl.turned_ok ok g
  have hc0 : (onS R l h o (inS R h)).1 ≤ c ∧ c ≤ (onS R l h o (inS R h)).2 := hc
  obtain ⟨hin, hon⟩ := (onS_mem ok).mp hc0
  have hT : (R.turned t s r).turn = some (t, s, r) := rfl
  by_cases ht : s * c ≤ t * (h - c) + r
  · left
    have m : (tuS (R.turned t s r) h true).1 ≤ c ∧ c ≤ (tuS (R.turned t s r) h true).2 := (tuS_mem okT hT true).mpr ⟨by rw [inS_turned]; exact hin, by simpa using ht⟩
    have m2 := (onS_mem (l := l) (h := h) (b := o) okT).mpr ⟨m, hon⟩
    have e : stO (R.turned t s r) l h (some o) none = onS (R.turned t s r) l h o (tuS (R.turned t s r) h true) := rfl
    unfold canB
    rw [e, if_neg (by omega)]
  · right
    have m : (tuS (R.turned t s r) h false).1 ≤ c ∧ c ≤ (tuS (R.turned t s r) h false).2 := (tuS_mem okT hT false).mpr ⟨by rw [inS_turned]; exact hin, by simpa using (by omega : t * (h - c) + r < s * c)⟩
    have e : stO (R.turned t s r) l h none (some w) = tuS (R.turned t s r) h false := rfl
    unfold canB
    rw [e, if_neg (by omega)]
    rcases hw with ⟨rfl, c1⟩ | ⟨ni, c2, ne⟩
    · have : decide ((tuS (R.turned t s r) h false).1 ≤ 1) = true := decide_eq_true (by omega)
      simpa using this
    · have hwst : 1 < worst (R.turned t s r) l h none w ∧ worst (R.turned t s r) l h none w ≤ (tuS (R.turned t s r) h false).2 ∧ NE R l h w (worst (R.turned t s r) l h none w) := by
        unfold worst
        rw [e]
        cases hs : small w with
        | true =>
          simp only [if_true]
          refine ⟨by omega, by omega, ne_less ok hs (by omega) (by omega) ne⟩
        | false =>
          simp only [Bool.false_eq_true, if_false]
          refine ⟨by omega, by omega, ne_more ok hs ni c2 (by omega) ne⟩
      obtain ⟨w1, w2, w3⟩ := hwst
      have hn : (nrF (R.turned t s r) l h w (worst (R.turned t s r) l h none w)).isSome = true := by
        rw [nrF_turned]
        unfold nrF
        rw [if_pos ((ne_iff ok ni).mpr w3)]
        rfl
      have fin : (decide (1 < worst (R.turned t s r) l h none w ∧ worst (R.turned t s r) l h none w ≤ (tuS (R.turned t s r) h false).2) && (nrF (R.turned t s r) l h w (worst (R.turned t s r) l h none w)).isSome) = true := by
        rw [hn, decide_eq_true ⟨w1, w2⟩]
        rfl
      cases w <;> first | exact absurd rfl ni | exact fin
end
end M
namespace M
/-! the numbers of a try rule's break keep the tests of a turn rule's case -/
theorem dot_add {xs ys zs : List Int} (h : xs.length = ys.length) : dot (addF xs ys) zs = dot xs zs + dot ys zs := by
  unfold dot addF
  induction xs generalizing ys zs with
  | nil =>
    cases ys with
    | nil => simp
    | cons y ys => cases h
  | cons x xs ih =>
    cases ys with
    | nil => cases h
    | cons y ys =>
      cases zs with
      | nil => simp
      | cons z zs =>
        have e := ih (ys := ys) (zs := zs) (by simpa using h)
        simp only [List.zip_cons_cons, List.map_cons, List.sum_cons, Int.add_mul] at e ⊢
        rw [e]
        omega
theorem dot_scale {k : Int} {xs zs : List Int} : dot (scaleF k xs) zs = k * dot xs zs := by
  unfold dot scaleF
  induction xs generalizing zs with
  | nil => simp
  | cons x xs ih =>
    cases zs with
    | nil => simp
    | cons z zs =>
      have e := ih (zs := zs)
      simp only [List.map_cons, List.zip_cons_cons, List.sum_cons, Int.mul_add, Int.mul_assoc] at e ⊢
      rw [e]
/-- the numbers of a case: of three unknowns, of four -/
def numsL (three : Bool) (l e c h : Int) : List Int := if three then [l, c, h - c] else [l, e, c - e, h - c]
section
variable {R : Rl} {l h c e : Int} {three : Bool}
theorem d_light : dot (lightP three) (numsL three l e c h) = l := by cases three <;> simp [dot, lightP, numsL]
theorem d_outer : dot (outerP three) (numsL three l e c h) = h - c := by cases three <;> simp [dot, outerP, numsL]
theorem d_inner : dot (innerP three) (numsL three l e c h) = c := by
  cases three <;> simp [dot, innerP, numsL]
  omega
theorem d_near : dot nearP (numsL false l e c h) = e := by simp [dot, nearP, numsL]
theorem d_far : dot farP (numsL false l e c h) = c - e := by simp [dot, farP, numsL]
theorem l_light : (lightP three).length = if three then 3 else 4 := by cases three <;> rfl
theorem l_outer : (outerP three).length = if three then 3 else 4 := by cases three <;> rfl
theorem l_inner : (innerP three).length = if three then 3 else 4 := by cases three <;> rfl
theorem l_add {xs ys : List Int} {n : Nat} (h : xs.length = n) (g : ys.length = n) : (addF xs ys).length = n := by rw [addF, List.length_map, List.length_zip, h, g, Nat.min_self]
theorem l_scale {xs : List Int} {n : Nat} (k : Int) (h : xs.length = n) : (scaleF k xs).length = n := by rw [scaleF, List.length_map, h]
theorem d_pq {a b : Int} {xs ys zs : List Int} {n : Nat} (h : xs.length = n) (g : ys.length = n) : dot (addF (scaleF a xs) (scaleF b ys)) zs = a * dot xs zs + b * dot ys zs := by
  rw [dot_add ((l_scale a h).trans (l_scale b g).symm), dot_scale, dot_scale]
theorem d_heavy : dot (heavyP three) (numsL three l e c h) = h := by
  unfold heavyP
  rw [dot_add (l_inner.trans l_outer.symm), d_inner, d_outer]
  omega
theorem l_heavy : (heavyP three).length = if three then 3 else 4 := l_add l_inner l_outer
/-- a break of one turn told by its test -/
theorem d_once {b : Br} (hb : b ≠ .inn ∧ b ≠ .ff ∧ b ≠ .fs) (q : OnceB R l h c b) : (breakT R three false b).2 ≤ dot (breakT R three false b).1 (numsL three l e c h) := by
  have n1 : (addF (lightP three) (innerP three)).length = if three then 3 else 4 := l_add l_light l_inner
  have a1 : dot (addF (lightP three) (innerP three)) (numsL three l e c h) = l + c := by rw [dot_add (l_light.trans l_inner.symm), d_light, d_inner]
  obtain ⟨b1, b2, b3⟩ := hb
  cases b <;> first
    | exact absurd rfl b1
    | exact absurd rfl b2
    | exact absurd rfl b3
    | skip
  · show R.k + 1 ≤ dot (addF (scaleF R.q (lightP three)) (scaleF (-R.p) (innerP three))) _
    rw [d_pq l_light l_inner, d_light, d_inner]
    simp only [OnceB, Int.neg_mul] at q ⊢
    omega
  · show R.k + 1 ≤ dot (addF (scaleF R.q (innerP three)) (scaleF (-R.p) (lightP three))) _
    rw [d_pq l_inner l_light, d_light, d_inner]
    simp only [OnceB, Int.neg_mul] at q ⊢
    omega
  · show R.k + 1 ≤ dot (addF (scaleF R.q (addF (lightP three) (innerP three))) (scaleF (-R.p) (outerP three))) _
    rw [d_pq n1 l_outer, a1, d_outer]
    simp only [OnceB, Int.neg_mul] at q ⊢
    omega
  · show R.k + 1 ≤ dot (addF (scaleF R.q (outerP three)) (scaleF (-R.p) (addF (lightP three) (innerP three)))) _
    rw [d_pq l_outer n1, a1, d_outer]
    simp only [OnceB, Int.neg_mul] at q ⊢
    omega
/-- a break of two turns told by its test -/
theorem d_twice {b : Br} (hb : b ≠ .inn) (q : NearB R l h c e b) : (breakT R false true b).2 ≤ dot (breakT R false true b).1 (numsL false l e c h) := by
  have n1 : (addF (lightP false) nearP).length = 4 := rfl
  have n2 : (addF farP (outerP false)).length = 4 := rfl
  have a1 : dot (addF (lightP false) nearP) (numsL false l e c h) = l + e := by rw [dot_add (xs := lightP false) (ys := nearP) rfl, d_light, d_near]
  have a2 : dot (addF farP (outerP false)) (numsL false l e c h) = h - e := by
    rw [dot_add (xs := farP) (ys := outerP false) rfl, d_far, d_outer]
    omega
  cases b <;> first
    | exact absurd rfl hb
    | skip
  · show R.k + 1 ≤ dot (addF (scaleF R.q (lightP false)) (scaleF (-R.p) nearP)) _
    rw [d_pq (n := 4) rfl rfl, d_light, d_near]
    simp only [NearB, Int.neg_mul] at q ⊢
    omega
  · show R.k + 1 ≤ dot (addF (scaleF R.q nearP) (scaleF (-R.p) (lightP false))) _
    rw [d_pq (n := 4) rfl rfl, d_light, d_near]
    simp only [NearB, Int.neg_mul] at q ⊢
    omega
  · show R.k + 1 ≤ dot (addF (scaleF R.q farP) (scaleF (-R.p) (outerP false))) _
    rw [d_pq (n := 4) rfl rfl, d_far, d_outer]
    simp only [NearB, Int.neg_mul] at q ⊢
    omega
  · show R.k + 1 ≤ dot (addF (scaleF R.q (outerP false)) (scaleF (-R.p) farP)) _
    rw [d_pq (n := 4) rfl rfl, d_far, d_outer]
    simp only [NearB, Int.neg_mul] at q ⊢
    omega
  · show R.k + 1 ≤ dot (addF (scaleF R.q (addF (lightP false) nearP)) (scaleF (-R.p) (addF farP (outerP false)))) _
    rw [d_pq n1 n2, a1, a2]
    simp only [NearB, Int.neg_mul] at q ⊢
    omega
  · show R.k + 1 ≤ dot (addF (scaleF R.q (addF farP (outerP false))) (scaleF (-R.p) (addF (lightP false) nearP))) _
    rw [d_pq n2 n1, a1, a2]
    simp only [NearB, Int.neg_mul] at q ⊢
    omega
/-- the tests of a case hold -/
theorem holds_of {pt : Bool} {o w : Option Br} (h1 : 1 ≤ l ∧ 1 ≤ c ∧ 1 ≤ h - c) (h2 : has3 w = false → 1 ≤ e ∧ 1 ≤ c - e ∧ R.q * (c - e) - R.p * e ≤ R.k ∧ R.q * e - R.p * (c - e) ≤ R.k) (h3 : R.k + 1 ≤ R.q * h - R.p * l) (h4 : R.q * h - R.p * l ≤ R.k + (if pt then R.q else R.p))
    (h5 : R.q * (h - c) - R.p * c ≤ R.k ∧ R.q * c - R.p * (h - c) ≤ R.k) (ht : ∀ t s r, R.turn = some (t, s, r) → if w.isSome then t * (h - c) + r < s * c else s * c ≤ t * (h - c) + r)
    (ho : ∀ b, o = some b → (breakT R (has3 w) false b).2 ≤ dot (breakT R (has3 w) false b).1 (numsL (has3 w) l e c h)) (hw : ∀ b, w = some b → (breakT R (has3 w) true b).2 ≤ dot (breakT R (has3 w) true b).1 (numsL (has3 w) l e c h)) :
    holds (testsT R pt o w) (numsL (has3 w) l e c h) = true := by
  unfold holds
  rw [List.all_eq_true]
  intro j hj
  refine decide_eq_true ?_
  simp only [testsT, List.mem_append, List.mem_singleton, List.mem_map] at hj
  rcases hj with ((((((hj | hj) | hj) | hj) | hj) | hj) | hj) | hj
  · obtain ⟨u, hu, rfl⟩ := hj
    cases g : has3 w with
    | true =>
      rw [g] at hu
      simp only [unitsP, if_true, List.mem_cons, List.not_mem_nil, or_false] at hu
      rcases hu with rfl | rfl | rfl <;> simp [dot, numsL] <;> omega
    | false =>
      rw [g] at hu
      obtain ⟨g1, g2, _⟩ := h2 g
      simp only [unitsP, Bool.false_eq_true, if_false, List.mem_cons, List.not_mem_nil, or_false] at hu
      rcases hu with rfl | rfl | rfl | rfl <;> simp [dot, numsL] <;> omega
  · subst hj
    show R.k + 1 ≤ dot (addF (scaleF R.q (heavyP (has3 w))) (scaleF (-R.p) (lightP (has3 w)))) _
    rw [d_pq l_heavy l_light, d_heavy, d_light, Int.neg_mul]
    omega
  · subst hj
    dsimp only
    rw [d_pq l_light l_heavy, d_heavy, d_light, Int.neg_mul]
    omega
  · simp only [fairT, List.mem_cons, List.not_mem_nil, or_false] at hj
    rcases hj with rfl | rfl
    · dsimp only
      rw [d_pq l_inner l_outer, d_inner, d_outer, Int.neg_mul]
      omega
    · dsimp only
      rw [d_pq l_outer l_inner, d_inner, d_outer, Int.neg_mul]
      omega
  · cases g : has3 w with
    | true =>
      rw [g] at hj
      simp at hj
    | false =>
      rw [g] at hj
      obtain ⟨g1, g2, g3, g4⟩ := h2 g
      simp only [fairT, Bool.false_eq_true, if_false, List.mem_cons, List.not_mem_nil, or_false] at hj
      rcases hj with rfl | rfl
      · dsimp only
        rw [d_pq (n := 4) rfl rfl, d_near, d_far, Int.neg_mul]
        omega
      · dsimp only
        rw [d_pq (n := 4) rfl rfl, d_near, d_far, Int.neg_mul]
        omega
  · unfold turnT at hj
    cases hT : R.turn with
    | none =>
      rw [hT] at hj
      cases hj
    | some tt =>
      obtain ⟨t, s, r⟩ := tt
      rw [hT] at hj
      have ht := ht t s r hT
      simp only [List.mem_singleton] at hj
      subst hj
      cases hs : w.isSome with
      | true =>
        rw [hs] at ht
        simp only [if_true] at ht ⊢
        rw [dot_scale, d_pq l_outer l_inner, d_inner, d_outer]
        simp only [Int.neg_mul, Int.one_mul, Int.mul_add, Int.neg_add]
        omega
      | false =>
        rw [hs] at ht
        simp only [Bool.false_eq_true, if_false] at ht ⊢
        rw [d_pq l_outer l_inner, d_inner, d_outer, Int.neg_mul]
        omega
  · cases o with
    | none => cases hj
    | some b =>
      simp only [List.mem_singleton] at hj
      subst hj
      exact ho b rfl
  · cases w with
    | none => cases hj
    | some b =>
      simp only [List.mem_singleton] at hj
      subst hj
      exact hw b rfl
theorem breakT_turned {t s r : Int} {tw : Bool} {b : Br} : breakT (R.turned t s r) three tw b = breakT R three tw b := rfl
/-- THE LAW, of one pair: where a try rule breaks, with numbers xs, the turn rule with the same p, q, k breaks, and the numbers keep its tests -/
theorem carried {b b' : Br} {pt : Bool} {o w : Option Br} {xs : List Int} {t s r : Int} (ok : R.Ok) (g : 1 ≤ t ∧ t ≤ 8 ∧ 1 ≤ s ∧ s ≤ 8 ∧ -6 ≤ r ∧ r ≤ 6) (h1 : 1 ≤ l) (hH : HW R pt l h) (ho : o = some b) (hw : w = some b') (hb : b ≠ .inn ∧ b ≠ .ff ∧ b ≠ .fs) (hN : Nums R l h o w xs) :
    (canB (R.turned t s r) l h (some b) none = true ∨ canB (R.turned t s r) l h none (some b') = true) ∧
    ∃ e c, xs = numsL (has3 w) l e c h ∧ (holds (testsT (R.turned t s r) pt none w) xs = true ∨ holds (testsT (R.turned t s r) pt o none) [l, c, h - c] = true) := by
  subst ho hw
  obtain ⟨c, c1, c2, hN⟩ := hN
  have c0 : (onS R l h b (inS R h)).1 ≤ c ∧ c ≤ (onS R l h b (inS R h)).2 := ⟨c1, c2⟩
  obtain ⟨hin, hon⟩ := (onS_mem ok).mp c0
  obtain ⟨i1, i2, i3, i4⟩ := (inS_mem ok).mp hin
  have q1 := ok.q1
  have qp := ok.qp
  have okT := Rl.turned_ok ok g
  have hT : (R.turned t s r).turn = some (t, s, r) := rfl
  have u3 : R.k + 1 ≤ R.q * h - R.p * l := by
    have a := hH.1
    have : ¬ h ≤ R.b l := by omega
    unfold Rl.b at this
    rw [le_div (by omega)] at this
    omega
  have u4 : R.q * h - R.p * l ≤ R.k + (if pt then R.q else R.p) := by
    have a := hH.2
    cases pt with
    | true =>
      simp only [if_true] at a ⊢
      have : h - 1 ≤ R.b l := by omega
      unfold Rl.b at this
      rw [le_div (by omega), Int.mul_sub] at this
      omega
    | false =>
      simp only [Bool.false_eq_true, if_false] at a ⊢
      have : h ≤ R.b (l + 1) := by omega
      unfold Rl.b at this
      rw [le_div (by omega), Int.mul_add] at this
      omega
  have u5 : R.q * (h - c) - R.p * c ≤ R.k ∧ R.q * c - R.p * (h - c) ≤ R.k := by
    simp only [Int.mul_sub]
    omega
  have key : (b' = .inn ∧ c ≤ 1 ∧ xs = [l, c, h - c]) ∨ (b' ≠ .inn ∧ 2 ≤ c ∧ ∃ e, Base R c e ∧ NearB R l h c e b' ∧ xs = [l, e, c - e, h - c]) := by
    rcases hN with ⟨(e | ⟨e, d⟩), hx⟩ | ⟨b2, e, eb, ni, d, n1, n2, hx⟩
    · cases e
    · cases e
      exact .inl ⟨rfl, d, hx⟩
    · cases eb
      have := (nrS_mem ok ni).mp ⟨n1, n2⟩
      exact .inr ⟨ni, d, e, this.1, this.2, hx⟩
  refine ⟨turned_breaks ok g c0 (key.imp (fun k => ⟨k.1, k.2.1⟩) fun ⟨ni, d, e, hB, hNb, _⟩ => ⟨ni, d, e, hB, hNb⟩), ?_⟩
  have sh : ∀ e, [l, c, h - c] = numsL (has3 none) l e c h := fun _ => rfl
  by_cases ht : s * c ≤ t * (h - c) + r
  · have fin : holds (testsT (R.turned t s r) pt (some b) none) [l, c, h - c] = true := by
      rw [sh 0]
      refine holds_of (R := R.turned t s r) ⟨h1, i1, by omega⟩ (fun z => by cases z) u3 u4 u5 (fun t' s' r' z => ?_) (fun b2 z => ?_) (fun b2 z => by cases z)
      · rw [hT] at z
        cases z
        simpa using ht
      · cases z
        exact d_once hb hon
    rcases key with ⟨rfl, d, hx⟩ | ⟨ni, d, e, hB, hNb, hx⟩
    · exact ⟨0, c, hx, .inr fin⟩
    · refine ⟨e, c, ?_, .inr fin⟩
      rw [hx]
      cases b' <;> first | exact absurd rfl ni | rfl
  · rcases key with ⟨rfl, d, hx⟩ | ⟨ni, d, e, hB, hNb, hx⟩
    · refine ⟨0, c, hx, .inl ?_⟩
      rw [hx]
      refine holds_of (R := R.turned t s r) (e := 0) ⟨h1, i1, by omega⟩ (fun z => by cases z) u3 u4 u5 (fun t' s' r' z => ?_) (fun b2 z => by cases z) (fun b2 z => ?_)
      · rw [hT] at z
        cases z
        simpa using (by omega : t * (h - c) + r < s * c)
      · cases z
        show -1 ≤ dot (scaleF (-1) (innerP true)) (numsL true l 0 c h)
        rw [dot_scale, d_inner]
        omega
    · have h3 : has3 (some b') = false := by cases b' <;> first | exact absurd rfl ni | rfl
      have ex : xs = numsL (has3 (some b')) l e c h := by
        rw [hx, h3]
        rfl
      refine ⟨e, c, ex, .inl ?_⟩
      rw [ex]
      obtain ⟨b1, b2, b3, b4⟩ := hB
      refine holds_of (R := R.turned t s r) ⟨h1, i1, by omega⟩ (fun z => ⟨b1, by omega, ?_⟩) u3 u4 u5 (fun t' s' r' z => ?_) (fun b2 z => by cases z) (fun b2 z => ?_)
      · show R.q * (c - e) - R.p * e ≤ R.k ∧ R.q * e - R.p * (c - e) ≤ R.k
        simp only [Int.mul_sub]
        omega
      · rw [hT] at z
        cases z
        simpa using (by omega : t * (h - c) + r < s * c)
      · cases z
        rw [h3]
        exact d_twice ni hNb
end
end M
namespace M
open PySem PySem.Spec PyProof.Rows L2 Evl
local macro_rules | `(tactic| walk_at "ar") => `(tactic| first | exact rfl | omega | (simp only [List.length_map, List.length_cons, List.length_nil] at *; omega) | decide)
local macro_rules | `(tactic| walk_at "ex") => `(tactic| first | with_reducible assumption | exact Ex.refl _ | (refine' Ex.trans ?a ?b; (case b => with_reducible assumption); (case a => walk_at "ex")) | (refine' Ex.mu2 ?a ?n ?b; (case b => with_reducible assumption); (case n => with_reducible assumption); (case a => walk_at "ex")))
local macro_rules | `(tactic| walk_at "exn") => `(tactic| first | with_reducible assumption | exact ExN.refl _ | (refine' ExN.trans ?a (ExN.of ?b); (case b => with_reducible assumption); (case a => walk_at "exn")) | (refine' ExN.trans ?a ?b; (case b => with_reducible assumption); (case a => walk_at "exn")))
local macro_rules | `(tactic| walk_at "ln") => `(tactic| first | exact rfl | omega | (simp only [scaleF, addF, List.length_map, List.length_zip, List.length_cons, List.length_nil] <;> omega))
local macro_rules | `(tactic| walk_at "kn") => `(tactic| first
  | with_reducible assumption
  | ((with_reducible refine' Fld.mono ?e ?m); (case e => with_reducible assumption); (case m => walk_at "kn"))
  | ((with_reducible refine' Ins.mono ?e ?m); (case e => with_reducible assumption); (case m => walk_at "kn"))
  | ((with_reducible refine' SqT.of ?m); (case m => walk_at "kn"))
  | ((with_reducible refine' SqL.of ?m); (case m => walk_at "kn"))
  | with_reducible exact kn_DEEDS (by assumption)
  | with_reducible exact kn_INNER (by assumption)
  | with_reducible exact kn_ONCE (by assumption)
  | with_reducible exact kn_TWICE (by assumption)
  | ((with_reducible refine' RB.mono ?e ?m); (case e => with_reducible assumption); (case m => walk_at "kn"))
  | ((with_reducible refine' RuleI.mono ?e ?m); (case e => with_reducible assumption); (case m => walk_at "kn"))
  | ((with_reducible refine' TestAt.mono ?e ?m); (case e => with_reducible assumption); (case m => walk_at "kn"))
  | ((with_reducible refine' TO_mono ?e ?m); (case e => with_reducible assumption); (case m => walk_at "kn"))
  | ((with_reducible refine' CaseAt.mono ?e ?m); (case e => with_reducible assumption); (case m => walk_at "kn"))
  | ((with_reducible refine' LT.fair ?e ?m); (case e => with_reducible assumption); (case m => with_reducible assumption))
  | ((with_reducible refine' LT.turn ?e ?m); (case e => with_reducible assumption); (case m => with_reducible assumption))
  | ((with_reducible refine' FormsB.mono ?e ?m); (case e => with_reducible assumption); (case m => walk_at "kn"))
  | ((with_reducible refine' tl_mono ?e ?m); (case e => with_reducible assumption); (case m => walk_at "kn"))
  | ((with_reducible refine' ExN.t ?e ?m); (case e => with_reducible assumption); (case m => walk_at "kn"))
  | ((with_reducible refine' ExN.fld ?e ?m); (case e => with_reducible assumption); (case m => walk_at "kn"))
  | ((with_reducible refine' ExN.ins ?e ?m); (case e => with_reducible assumption); (case m => walk_at "kn"))
  | ((with_reducible refine' RuleI.monoN ?e ?m); (case e => with_reducible assumption); (case m => walk_at "kn"))
  | ((with_reducible refine' TestAt.monoN ?e ?m); (case e => with_reducible assumption); (case m => walk_at "kn"))
  | ((with_reducible refine' CaseAt.monoN ?e ?m); (case e => with_reducible assumption); (case m => walk_at "kn"))
  | ((with_reducible refine' FormsB.monoN ?e ?m); (case e => with_reducible assumption); (case m => walk_at "kn"))
  | ((with_reducible refine' tl_monoN ?e ?m); (case e => with_reducible assumption); (case m => walk_at "kn"))
  | ((with_reducible refine' LT.mono ?e ?m); (case e => with_reducible assumption); (case m => walk_at "kn"))
  | ((with_reducible refine' PairI.mono ?e ?m); (case e => with_reducible assumption); (case m => walk_at "kn"))
  | ((with_reducible refine' WrongAt.mono ?e ?m); (case e => with_reducible assumption); (case m => walk_at "kn"))
  | ((with_reducible refine' ex_t ?e ?m); (case e => with_reducible assumption); (case m => walk_at "kn"))
  | ((with_reducible refine' ex_l ?e ?m); (case e => with_reducible assumption); (case m => walk_at "kn"))
  | ((with_reducible refine' Ex.at ?e ?m); (case e => with_reducible assumption); (case m => walk_at "kn"))
  | ((with_reducible refine' Mu.t ?e ?n ?m); (case e => with_reducible assumption); (case n => with_reducible assumption); (case m => walk_at "kn"))
  | ((with_reducible refine' Mu.lst ?e ?n ?m); (case e => with_reducible assumption); (case n => with_reducible assumption); (case m => walk_at "kn"))
  | ((with_reducible refine' Mu.fld ?e ?n ?m); (case e => with_reducible assumption); (case n => with_reducible assumption); (case m => walk_at "kn")))
local macro_rules | `(tactic| walk_at "st") => `(tactic| first
  | with_reducible refine k_seq ?_
  | with_reducible refine k_asg ?_
  | with_reducible refine k_ret ?_
  | with_reducible refine k_drop ?_
  | with_reducible refine k_ifS ?_
  | with_reducible refine k_name ?_
  | with_reducible refine k_next ?_
  | ((with_reducible refine' k_var ?hv ?_); case hv => exact rfl)
  | with_reducible refine k_c ?_
  | with_reducible refine k_fld ?_
  | ((with_reducible refine' k_fld2 ?hv ?_); case hv => walk_at "kn")
  | with_reducible refine k_op ?_
  | with_reducible refine k_un ?_
  | with_reducible refine k_add ?_
  | with_reducible refine k_sub ?_
  | with_reducible refine k_neg ?_
  | ((with_reducible refine' k_mul ?hv ?_); case hv => first | (left; constructor <;> omega) | (right; constructor <;> omega))
  | ((with_reducible refine' k_fdiv ?hv ?_); case hv => constructor <;> omega)
  | ((with_reducible refine' k_mod ?hv ?_); case hv => omega)
  | with_reducible refine k_lt ?_
  | with_reducible refine k_le ?_
  | with_reducible refine k_gt ?_
  | with_reducible refine k_ge ?_
  | with_reducible refine k_eqI ?_
  | with_reducible refine k_eqT ?_
  | with_reducible refine k_neI ?_
  | with_reducible refine k_isN_int ?_
  | with_reducible refine k_isN_ref ?_
  | with_reducible refine k_isN_non ?_
  | with_reducible refine k_notN_int ?_
  | with_reducible refine k_notN_ref ?_
  | with_reducible refine k_notN_non ?_
  | with_reducible refine k_test ?_
  | with_reducible refine k_B ?_
  | with_reducible refine k_bx ?_
  | with_reducible refine k_not ?_
  | with_reducible refine k_notV ?_
  | with_reducible refine k_and ?_
  | with_reducible refine k_or ?_
  | with_reducible refine k_andV ?_
  | with_reducible refine k_orV ?_
  | with_reducible refine k_if ?_
  | with_reducible refine k_chain ?_
  | with_reducible refine iteT ?_
  | with_reducible refine iteF ?_
  | with_reducible refine k_nil ?_
  | with_reducible refine k_cons ?_
  | with_reducible refine k_tup ?_
  | with_reducible refine k_lst ?_
  | with_reducible refine k_call ?_
  | with_reducible refine k_meth ?_
  | ((with_reducible refine' k_meth2 ?hv ?_); case hv => walk_at "kn")
  | with_reducible refine k_make ?_
  | with_reducible refine k_cb ?_
  | with_reducible refine k_min2 ?_
  | with_reducible refine k_max2 ?_
  | with_reducible refine k_int1 ?_
  | with_reducible refine k_int1b ?_
  | with_reducible refine k_abs1 ?_
  | ((with_reducible refine' k_gtup ?hv ?hw ?_); (case hv => walk_at "kn"); (case hw => rfl))
  | with_reducible refine k_gcons ?_
  | with_reducible refine k_gnil ?_
  | with_reducible refine k_isi_ii ?_
  | with_reducible refine k_isi_ib ?_
  | with_reducible refine k_isi_ss ?_
  | ((with_reducible refine' k_isi_tt ?hv ?_); case hv => walk_at "kn")
  | with_reducible refine iteNT ?_
  | with_reducible refine iteNF ?_
  | with_reducible refine k_cval ?_
  | ((with_reducible refine' k_cval2 ?hv ?_); case hv => exact kn_most (by assumption))
  | with_reducible refine k_lc ?_
  | with_reducible refine k_iT ?_
  | ((with_reducible refine' k_iT2 ?hv ?_); case hv => walk_at "kn")
  | with_reducible refine k_iL ?_
  | ((with_reducible refine' k_iL2 ?hv ?_); case hv => walk_at "kn")
  | with_reducible refine k_i1 ?_
  | ((with_reducible refine' k_i1a ?hv ?_); case hv => constructor <;> omega)
  | with_reducible refine k_i2 ?_
  | ((with_reducible refine' k_i2a ?hv ?_); case hv => refine ⟨?_, ?_, ?_, ?_⟩ <;> omega)
  | with_reducible refine k_iZ ?_
  | ((with_reducible refine' k_iZa ?hv ?hw ?_); (case hv => walk_at "kn"); (case hw => walk_at "kn"))
  | with_reducible refine k_iN ?_
  | ((with_reducible refine' k_lenT ?hv ?_); case hv => walk_at "kn")
  | ((with_reducible refine' k_lenL ?hv ?_); case hv => walk_at "kn")
  | ((with_reducible refine' k_ixT ?hv ?hw ?_); (case hv => walk_at "kn"); (case hw => rfl))
  | ((with_reducible refine' k_tupL ?hv ?_); (case hv => walk_at "kn"); (refine' fun _ _ _ _ _ => ?_))
  | ((with_reducible refine' k_tupT ?hv ?_); (case hv => walk_at "kn"))
  | ((with_reducible refine' k_new ?hv ?_); (case hv => (simp only [List.length_cons, List.length_nil]; exact sze _ (by omega))); (refine' fun _ _ _ _ _ => ?_))
  | ((with_reducible refine' k_isiW ?hT ?hv ?_); (case hT => assumption); (case hv => walk_at "kn"))
  | ((with_reducible refine' k_isiT ?hT ?hv ?_); (case hT => assumption); (case hv => walk_at "kn"))
  | ((with_reducible refine' k_isiC ?hT ?hv ?_); (case hT => assumption); (case hv => walk_at "kn"))
  | ((with_reducible refine' k_isiLT ?hv ?hw ?_); (case hv => walk_at "kn"); (case hw => walk_at "kn"))
  | ((with_reducible refine' k_isN_TO ?hv ?_); (case hv => walk_at "kn"))
  | ((with_reducible refine' k_notN_TO ?hv ?_); (case hv => walk_at "kn"))
  | ((with_reducible refine' k_notInDeeds ?hv ?_); (case hv => walk_at "kn"))
  | with_reducible refine k_eqPut ?_
  | ((refine' k_eqB .inn ?hv ?hw ?hx ?_); (case hv => walk_at "kn"); (case hw => walk_at "kn"); (case hx => rfl))
  | ((refine' k_eqB .lf ?hv ?hw ?hx ?_); (case hv => walk_at "kn"); (case hw => walk_at "kn"); (case hx => rfl))
  | ((refine' k_eqB .ls ?hv ?hw ?hx ?_); (case hv => walk_at "kn"); (case hw => walk_at "kn"); (case hx => rfl))
  | ((refine' k_eqB .ff ?hv ?hw ?hx ?_); (case hv => walk_at "kn"); (case hw => walk_at "kn"); (case hx => rfl))
  | ((refine' k_eqB .fs ?hv ?hw ?hx ?_); (case hv => walk_at "kn"); (case hw => walk_at "kn"); (case hx => rfl))
  | ((refine' k_eqB .tf ?hv ?hw ?hx ?_); (case hv => walk_at "kn"); (case hw => walk_at "kn"); (case hx => rfl))
  | ((with_reducible refine' k_yes ?hv ?_); (case hv => walk_at "ar"))
  | ((with_reducible refine' k_no ?hv ?_); (case hv => walk_at "ar"))
  | ((with_reducible refine' k_nyes ?hv ?_); (case hv => walk_at "ar"))
  | ((with_reducible refine' k_nno ?hv ?_); (case hv => walk_at "ar"))
  | with_reducible refine k_sfld ?_
  | ((with_reducible refine' k_ixL ?hv ?hw ?_); (case hv => walk_at "kn"); (case hw => rfl))
  | ((with_reducible refine' k_sumTu _ ?hv ?_); (case hv => walk_at "kn"))
  | ((with_reducible refine' u_is_integer  ?_); (refine' fun _ _ => ?_))
  | ((with_reducible refine' u_over ?ha ?_); (case ha => constructor <;> omega); (refine' fun _ _ => ?_))
  | ((with_reducible refine' u_is_within ?ha ?_); (case ha => constructor <;> omega); (refine' fun _ _ => ?_))
  | ((with_reducible refine' u_need_plus ?ha ?_); (case ha => constructor <;> omega); (refine' fun _ _ => ?_))
  | ((with_reducible refine' u_need_weight ?ha ?_); (case ha => constructor <;> omega); (refine' fun _ _ => ?_))
  | ((with_reducible refine' u_is_times ?ha ?hb ?_); (case ha => walk_at "kn"); (case hb => refine ⟨⟨?_, ?_⟩, ?_, ?_⟩ <;> omega); (refine' fun _ _ => ?_))
  | ((with_reducible refine' u_beside ?ha ?_); (case ha => walk_at "kn"); (refine' fun _ _ => ?_))
  | ((with_reducible refine' u_greatest ?ha ?hb ?_); (case ha => walk_at "kn"); (case hb => constructor <;> omega); (refine' fun _ _ => ?_))
  | ((with_reducible refine' u_need_weight_rule ?ha ?_); (case ha => walk_at "kn"); (refine' fun _ _ => ?_))
  | ((with_reducible refine' u_need_deed  ?_); (refine' fun _ _ => ?_))
  | ((with_reducible refine' u_has_three ?ha ?_); (case ha => walk_at "kn"); (refine' fun _ _ => ?_))
  | ((with_reducible refine' u_scaled ?ha ?hb ?_); (case ha => walk_at "kn"); (case hb => refine ⟨⟨?_, ?_⟩, ?_⟩ <;> (walk_at "ln")); (refine' fun _ _ _ _ => ?_))
  | ((with_reducible refine' u_added ?ha ?hb ?hc ?_); (case ha => walk_at "kn"); (case hb => walk_at "kn"); (case hc => constructor <;> (walk_at "ln")); (refine' fun _ _ _ _ => ?_))
  | ((with_reducible refine' u_amount ?ha ?hb ?hc ?_); (case ha => walk_at "kn"); (case hb => walk_at "kn"); (case hc => assumption); (refine' fun _ _ => ?_))
  | ((with_reducible refine' u_mk_Test ?ha ?hb ?_); (case ha => walk_at "kn"); (case hb => assumption); (refine' fun _ _ _ _ => ?_))
  | ((with_reducible refine' k_eq1st  ?_))
  | ((with_reducible refine' u_heavy_form ?ha ?_); (case ha => walk_at "kn"); (refine' fun _ _ _ _ => ?_))
  | ((with_reducible refine' u_sides ?ha ?hb ?_); (case ha => walk_at "kn"); (case hb => assumption); (refine' fun _ _ _ _ _ _ _ _ => ?_))
  | ((with_reducible refine' u_fair_tests ?ha ?hb ?hc ?hd ?_); (case ha => walk_at "kn"); (case hb => walk_at "kn"); (case hc => walk_at "kn"); (case hd => assumption); (refine' fun _ _ _ _ _ _ => ?_))
  | ((with_reducible refine' u_unfair_test ?ha ?hb ?hc ?hd ?_); (case ha => walk_at "kn"); (case hb => walk_at "kn"); (case hc => walk_at "kn"); (case hd => assumption); (refine' fun _ _ _ _ => ?_))
  | ((with_reducible refine' k_eq1st  ?_))
  | ((with_reducible refine' u_turn_tests ?ha ?hb ?_); (case ha => walk_at "kn"); (case hb => walk_at "kn"); (refine' fun _ _ _ _ _ _ => ?_))
  | ((with_reducible refine' u_break_test ?ha ?hb ?hc ?hd ?_); (case ha => walk_at "kn"); (case hb => walk_at "kn"); (case hc => walk_at "kn"); (case hd => assumption); (refine' fun _ _ _ _ => ?_))
  | ((with_reducible refine' k_ifv ?ha ?hb ?_); (case ha => exact rfl); (case hb => exact rfl))
  | ((with_reducible refine' k_apT ?ha ?hb ?hc ?_); (case ha => walk_at "kn"); (case hb => omega); (case hc => first | with_reducible assumption | (with_reducible exact TL.mk2 (by assumption)) | (with_reducible exact TL.mk (by assumption))); (refine' fun _ _ _ _ => ?_))
  | ((with_reducible refine' k_exT ?ha ?hb ?hc ?_); (case ha => walk_at "kn"); (case hb => walk_at "kn"); (case hc => omega); (refine' fun _ _ _ _ => ?_))
  | ((with_reducible refine' k_bm  ?_))
  | ((with_reducible refine' k_bmL ?ha ?_); (case ha => walk_at "kn"))
  | ((with_reducible refine' k_tupLT ?ha ?_); (case ha => walk_at "kn"); (refine' fun _ _ _ _ _ _ => ?_))
  | ((with_reducible refine' u_mk_Case ?ha ?hb ?_); (case ha => walk_at "kt"); (case hb => walk_at "kt"); (refine' fun _ _ _ _ => ?_))
  | ((with_reducible refine' k_bmL1 ?ha ?_); (case ha => walk_at "kn"))
  | ((with_reducible refine' k_for  ?_))
  | ((with_reducible refine' u_all_cases ?ha ?_); (case ha => walk_at "kn"); (refine' fun _ _ _ _ _ _ => ?_))
  | ((with_reducible refine' u_need_case ?ha ?hb ?hc ?_); (case ha => walk_at "kn"); (case hb => walk_at "kn"); (case hc => assumption); (refine' fun _ _ => ?_))
  | ((with_reducible refine' u_tests_in ?ha ?hb ?hc ?_); (case ha => walk_at "kn"); (case hb => walk_at "kn"); (case hc => assumption); (refine' fun _ _ _ _ _ _ => ?_))
  | ((with_reducible refine' k_callI0  ?_))
  | ((with_reducible refine' k_callI1  ?_))
  | ((with_reducible refine' k_gfld  ?_))
  | ((with_reducible refine' u_inner_stretch ?ha ?_); (case ha => walk_at "kn"); (refine' fun _ _ _ _ => ?_))
  | ((with_reducible refine' u_turned_stretch ?ha ?hb ?hc ?_); (case ha => walk_at "kn"); (case hb => walk_at "kn"); (case hc => assumption); (refine' fun _ _ _ _ => ?_))
  | ((with_reducible refine' u_once_stretch ?ha ?hb ?hc ?_); (case ha => walk_at "kn"); (case hb => walk_at "kn"); (case hc => walk_at "kn"); (refine' fun _ _ _ _ => ?_))
  | ((with_reducible refine' u_near_stretch ?ha ?hb ?_); (case ha => walk_at "kn"); (case hb => walk_at "kn"); (refine' fun _ _ _ _ => ?_))
  | ((with_reducible refine' u_near_for ?ha ?hb ?_); (case ha => walk_at "kn"); (case hb => walk_at "kn"); (refine' fun _ _ => ?_))
  | ((with_reducible refine' k_isN_oV  ?_))
  | ((with_reducible refine' k_notN_oV  ?_))
  | ((with_reducible refine' u_stretch_of ?ha ?hb ?hc ?_); (case ha => walk_at "kn"); (case hb => walk_at "kn"); (case hc => assumption); (refine' fun _ _ _ _ => ?_))
  | ((with_reducible refine' u_can_break ?ha ?hb ?hc ?_); (case ha => walk_at "kn"); (case hb => walk_at "kn"); (case hc => assumption); (refine' fun _ _ => ?_))
  | ((with_reducible refine' u_numbers_for ?ha ?hb ?hc ?hd ?_); (case ha => walk_at "kn"); (case hb => walk_at "kn"); (case hc => assumption); (case hd => assumption); (refine' fun _ _ _ _ _ _ => ?_)))
local macro_rules | `(tactic| walk_at "go") => `(tactic| repeat (walk_at "st"))
local macro_rules | `(tactic| walk_at "run") => `(tactic| (dsimp only [cxK]; walk_at "go"))

section
variable {P : Program} {w : World} {K : PySem.W.Frag} {mg : Str → Option Value} {base : Heap}
local macro_rules | `(tactic| walk_at "st") => `(tactic| first
  | ((with_reducible refine' k_lrg  ?_)))
local macro_rules | `(tactic| walk_at "st") => `(tactic| first
  | ((with_reducible refine' k_lrg2 ?ha ?_); (case ha => assumption); (refine' fun _ _ _ _ => ?_)))
local macro_rules | `(tactic| walk_at "st") => `(tactic| first
  | ((with_reducible refine' k_inRg ?ha ?_); (case ha => walk_at "kn")))
def sp_heavy_weights (K : PySem.W.Frag) : Sp := PR (fun i : Addr × Rl × Bool × Int => [.ref i.1, .str (dS i.2.2.1), .int i.2.2.2]) (fun i H => RuleI K H i.1 i.2.1 ∧ 1 ≤ i.2.2.2 ∧ i.2.2.2 ≤ 900) fun i _ v H' => ∃ l, v = .ref l ∧ H' l = some (.lst (rgV (i.2.1.b i.2.2.2 + 1) (if i.2.2.1 then i.2.1.b i.2.2.2 + 1 + 1 else i.2.1.b (i.2.2.2 + 1) + 1)))
theorem ok_heavy_weights (T : TX K mg) : Ok P w K mg base 3 (He.ga K "heavy_weights") ["rule", "deed", "light"] (sp_heavy_weights K) := by
  obtain ⟨fd, F⟩ := T.F_heavy_weights
  obtain ⟨_, G_WeightRule_beside, b_WeightRule_beside, k_WeightRule_beside⟩ := ok_WeightRule_beside (P := P) (w := w) (base := base) T
  refine ⟨fd, okN F sc_heavy_weights (by first | exact SV.len (fun _ => rfl) | exact PR.len (fun _ => rfl) | exact SJ.len (fun _ => rfl) | exact spEqB_len) (fun cdv A outer s H vs Q E hr h => ?_), F.bindsN (fun _ _ _ _ _ _ us hl => match us, hl with | [_, _, _], _ => rfl), F.kp⟩
  obtain ⟨⟨r, R, pt, l⟩, rfl, ⟨hR, h1, h2⟩, q⟩ := h
  dsimp only at hR h1 h2 q
  have mb := hR.b
  have b1 := b_bd hR.ok h1 (by omega)
  have b2 := b_bd hR.ok (show 1 ≤ l + 1 by omega) (by omega)
  have g1 : RgOk (R.b l + 1) (R.b l + 1 + 1) := RgOk.of_le (by omega) (by omega) (by omega) (by omega)
  have g2 : RgOk (R.b l + 1) (R.b (l + 1) + 1) := RgOk.of_le (by omega) (by omega) (by omega) (by omega)
  refine ⟨_, (pss_cons (ps_set (i := 3) sc_heavy_weights.nd rfl (Or.inl rfl) (pe_op op_add (pe_meth (pv 0) (T.c_R R) (T.m_R_beside R) G_WeightRule_beside (hr.mono (by decide)) b_WeightRule_beside .nil pass0 (pa_cons (pv 2) pa_nil)) pe_int))
      (pss_one (ps_ret (pe_listRg rfl (by rfl) T.n_list (prg_2 (by rfl) T.n_range (pv 3) (pe_ifExp (pt_cmpR op_eq (pv 1) pe_str (nomark _)) (pe_op op_add (pv 3) pe_int) (pe_op op_add (pe_meth (pv 0) (T.c_R R) (T.m_R_beside R) G_WeightRule_beside (hr.mono (by decide)) b_WeightRule_beside .nil pass0 (pa_cons (pe_op op_add (pv 2) pe_int) pa_nil)) pe_int))))))), ?_⟩
  walk_at "run"
  rw [dS_dec]
  cases pt with
  | true =>
    refine iteT ?_
    walk_at "go"
    refine q _ _ ?_ ⟨_, rfl, by assumption⟩
    walk_at "ex"
  | false =>
    refine iteF ?_
    walk_at "go"
    refine q _ _ ?_ ⟨_, rfl, by assumption⟩
    walk_at "ex"
theorem u_heavy_weights {r : Addr} {R : Rl} {pt : Bool} {l : Int} {H : Hp} {Q : VK} {E : XK} (hR : RuleI K H r R) (c : 1 ≤ l ∧ l ≤ 900) (q : ∀ t H', Ex H H' → H' t = some (.lst (rgV (R.b l + 1) (if pt then R.b l + 1 + 1 else R.b (l + 1) + 1))) → Q (.ref t) H') : sp_heavy_weights K [.ref r, .str (dS pt), .int l] H Q E :=
  ⟨(r, R, pt, l), rfl, ⟨hR, c.1, c.2⟩, fun v H' e ⟨t, ev, h⟩ => ev ▸ q t H' e h⟩
local macro_rules | `(tactic| walk_at "st") => `(tactic| first
  | ((with_reducible refine' u_heavy_weights ?ha ?hb ?_); (case ha => walk_at "kn"); (case hb => constructor <;> omega); (refine' fun _ _ _ _ => ?_)))
def sp_Wrong_init (K : PySem.W.Frag) : Sp := SJ (He.ga K "Wrong") (fun i : Bool × Option Br × Option Br × V × V × Addr × List Int => [.str (dS i.1), i.2.2.2.1, i.2.2.2.2.1, .ref i.2.2.2.2.2.1]) (fun i H => TO K H i.2.2.2.1 i.2.1 ∧ TO K H i.2.2.2.2.1 i.2.2.1 ∧ SqT K H i.2.2.2.2.2.1 (i.2.2.2.2.2.2.map V.int)) fun i x H' => WrongAt K H' x i.1 i.2.1 i.2.2.1 i.2.2.2.2.2.2
theorem ok_Wrong_init (T : TX K mg) : Ok P w K mg base 1 (He.ma K (He.ga K "Wrong") "__init__") ["self", "deed", "once", "twice", "numbers"] (sp_Wrong_init K) := by
  obtain ⟨fd, F⟩ := T.F_Wrong_init
  refine ⟨fd, okN F sc_Wrong_init (by first | exact SV.len (fun _ => rfl) | exact PR.len (fun _ => rfl) | exact SJ.len (fun _ => rfl) | exact spEqB_len) (fun cdv A outer s H vs Q E hr h => ?_), F.bindsN (fun _ _ _ _ _ _ us hl => match us, hl with | [_, _, _, _, _], _ => rfl), F.kp⟩
  obtain ⟨⟨pt, o, w', vo, vw, t, xs⟩, x, dx, rfl, hx, ⟨h1, h2, h3⟩, q⟩ := h
  dsimp only at h1 h2 h3 q
  refine ⟨_, (pss_cons (ps_fld (pv 0) (pv 1) rfl)
      (pss_cons (ps_fld (pv 0) (pv 2) rfl)
      (pss_cons (ps_fld (pv 0) (pv 3) rfl)
      (pss_one (ps_fld (pv 0) (pv 4) rfl))))), ?_⟩
  walk_at "run"
  refine' k_sf ?ha1 T.c_Wrong T.na_Wrong_deed ?hb1 ?hc1
  case ha1 => walk_at "kn"
  case hb1 => exact (show 0 < 1000 by omega)
  refine' fun H1 m1 hx1 => ?_
  walk_at "go"
  refine' k_sf ?ha2 T.c_Wrong T.na_Wrong_once ?hb2 ?hc2
  case ha2 => walk_at "kn"
  case hb2 => exact (show 1 < 1000 by omega)
  refine' fun H2 m2 hx2 => ?_
  walk_at "go"
  refine' k_sf ?ha3 T.c_Wrong T.na_Wrong_twice ?hb3 ?hc3
  case ha3 => walk_at "kn"
  case hb3 => exact (show 2 < 1000 by omega)
  refine' fun H3 m3 hx3 => ?_
  walk_at "go"
  refine' k_sf ?ha4 T.c_Wrong T.na_Wrong_numbers ?hb4 ?hc4
  case ha4 => walk_at "kn"
  case hb4 => exact (show 3 < 1000 by omega)
  refine' fun H4 m4 hx4 => ?_
  have m := m1.trans (m2.trans (m3.trans m4))
  exact q _ m ⟨fld_of hx4 T.c_Wrong T.na_Wrong_deed rfl, ⟨_, fld_of hx4 T.c_Wrong T.na_Wrong_once rfl, m.to hx h1⟩, ⟨_, fld_of hx4 T.c_Wrong T.na_Wrong_twice rfl, m.to hx h2⟩, ⟨_, fld_of hx4 T.c_Wrong T.na_Wrong_numbers rfl, m.t hx h3⟩⟩
theorem u_mk_Wrong {F : Addr → Hp → Prop} {H : Hp} {E : XK} {pt : Bool} {o w' : Option Br} {vo vw : V} {t : Addr} {xs : List Int} (h1 : TO K H vo o) (h2 : TO K H vw w') (h3 : SqT K H t (xs.map V.int)) (k : ∀ x H', Ex H H' → WrongAt K H' x pt o w' xs → F x H') :
    ∀ x dx, H x = none → H dx = none → dx ≠ x → sp_Wrong_init K (.ref x :: [.str (dS pt), vo, vw, .ref t]) (upd (upd H dx (.own x)) x (.ins (He.ga K "Wrong") dx [])) (fun v H2 => v = .non ∧ F x H2) E :=
  SJ.make (pt, o, w', vo, vw, t, xs) (fun H' e => ⟨TO_mono e h1, TO_mono e h2, ex_t e h3⟩) fun x H' e _ t => k x H' e t
local macro_rules | `(tactic| walk_at "st") => `(tactic| first
  | ((with_reducible refine' u_mk_Wrong ?ha ?hb ?hc ?_); (case ha => walk_at "kn"); (case hb => walk_at "kn"); (case hc => walk_at "kn"); (refine' fun _ _ _ _ => ?_)))
local macro_rules | `(tactic| walk_at "st") => `(tactic| first
  | ((with_reducible refine' u_mk_Pair ?ha ?_); (case ha => walk_at "kn"); (refine' fun _ _ _ _ => ?_)))
def sp_wrong_at (K : PySem.W.Frag) : Sp := PR (fun i : Addr × Rl × Bool × Int × Int => [.ref i.1, .str (dS i.2.2.1), .int i.2.2.2.1, .int i.2.2.2.2]) (fun i H => RuleI K H i.1 i.2.1) fun i _ v H' => WA K i.2.1 i.2.2.1 i.2.2.2.1 i.2.2.2.2 v H'
theorem ok_wrong_at (T : TX K mg) : Ok P w K mg base 11 (He.ga K "wrong_at") ["rule", "deed", "light", "heavy"] (sp_wrong_at K) := by
  obtain ⟨fd, F⟩ := T.F_wrong_at
  obtain ⟨_, G_Pair_init, b_Pair_init, k_Pair_init⟩ := ok_Pair_init (P := P) (w := w) (base := base) T
  obtain ⟨_, G_all_cases, b_all_cases, k_all_cases⟩ := ok_all_cases (P := P) (w := w) (base := base) T
  obtain ⟨_, G_Pair_can_break, b_Pair_can_break, k_Pair_can_break⟩ := ok_Pair_can_break (P := P) (w := w) (base := base) T
  obtain ⟨_, G_Wrong_init, b_Wrong_init, k_Wrong_init⟩ := ok_Wrong_init (P := P) (w := w) (base := base) T
  obtain ⟨_, G_Pair_numbers_for, b_Pair_numbers_for, k_Pair_numbers_for⟩ := ok_Pair_numbers_for (P := P) (w := w) (base := base) T
  refine ⟨fd, okN F sc_wrong_at (by first | exact SV.len (fun _ => rfl) | exact PR.len (fun _ => rfl) | exact SJ.len (fun _ => rfl) | exact spEqB_len) (fun cdv A outer s H vs Q E hr h => ?_), F.bindsN (fun _ _ _ _ _ _ us hl => match us, hl with | [_, _, _, _], _ => rfl), F.kp⟩
  obtain ⟨⟨r, R, pt, l, hh⟩, rfl, hR, q⟩ := h
  dsimp only at hR q
  refine ⟨_, (pss_cons (ps_set (i := 4) sc_wrong_at.nd rfl (Or.inl rfl) (pe_make T.mk_Pair G_Pair_init (hr.mono (by decide)) (by rfl) T.g_Pair b_Pair_init .nil pass0 (pa_cons (pv 0) (pa_cons (pv 2) (pa_cons (pv 3) pa_nil)))))
      (pss_cons (ps_for PassesOwn.never rfl (pi_list (pe_call G_all_cases (hr.mono (by decide)) (by rfl) T.g_all_cases k_all_cases b_all_cases .nil pass0 (pa_cons (pv 0) (pa_cons (pv 1) pa_nil)))) (pg_name (i := 5) sc_wrong_at.nd rfl (by first | exact Or.inl rfl | exact Or.inr rfl)) (pss_one (ps_if (pt_val (pe_meth (pv 4) T.c_Pair T.m_Pair_can_break G_Pair_can_break (hr.mono (by decide)) b_Pair_can_break .nil pass0 (pa_cons (pv 5) pa_nil))) (pss_one (ps_ret (pe_make T.mk_Wrong G_Wrong_init (hr.mono (by decide)) (by rfl) T.g_Wrong b_Wrong_init .nil pass0 (pa_cons (pv 1) (pa_cons (pe_fld (pv 5) rfl) (pa_cons (pe_fld (pv 5) rfl) (pa_cons (pe_meth (pv 4) T.c_Pair T.m_Pair_numbers_for G_Pair_numbers_for (hr.mono (by decide)) b_Pair_numbers_for .nil pass0 (pa_cons (pv 5) pa_nil)) pa_nil))))))) pss_nil)))
      (pss_one (ps_ret pe_non)))), ?_⟩
  walk_at "run"
  rename_i xp H1 e1 hP xl ys H2 e2 hl a2
  refine for_list (K := K) (xs := ys) (fun i σ' H' => ∃ u, σ' = [some (.ref r), some (.str (dS pt)), some (.int l), some (.int hh), some (.ref xp), u] ∧ Ex H2 H' ∧ ∀ j c, j < i → (casesOf R)[j]? = some c → canB R l hh c.1 c.2 = false)
    ⟨none, rfl, Ex.refl _, fun j c hj => by omega⟩ (fun i σ' H' _ hI => ex_l hI.choose_spec.2.1 (SqL.of hl)) (fun i x σ' H' hx hI => ?_) (fun σ' H' hI => ?_)
  · obtain ⟨u, rfl, eI, hno⟩ := hI
    have hi : i < ys.length := (List.getElem?_eq_some_iff.mp hx).1
    have hi2 : i < (casesOf R).length := by rw [← a2.1]; exact hi
    have hc : (casesOf R)[i]? = some (casesOf R)[i] := List.getElem?_eq_getElem hi2
    obtain ⟨ca, rfl, hC⟩ := a2.2 i _ x hc hx
    obtain ⟨⟨o, w'⟩, ho⟩ : ∃ c, (casesOf R)[i] = c := ⟨_, rfl⟩
    rw [ho] at hC hc
    have hm : (o, w') ∈ casesOf R := List.mem_of_getElem? hc
    have mc := hP.ins (m := "can_break") (by simp)
    have mn := hP.ins (m := "numbers_for") (by simp)
    have cd := hC.d
    obtain ⟨vo, co, cot⟩ := hC.o
    obtain ⟨vw, cw, cwt⟩ := hC.w
    walk_at "go"
    cases hb : canB R l hh o w' with
    | true =>
      refine iteT ?_
      walk_at "go"
      refine q _ _ ?_ (.inr ⟨_, o, w', _, rfl, hm, by assumption, by assumption⟩)
      walk_at "ex"
    | false =>
      refine iteF ?_
      walk_at "go"
      refine ⟨_, rfl, by walk_at "ex", fun j c hj hjc => ?_⟩
      by_cases e : j = i
      · subst e
        rw [hc] at hjc
        cases hjc
        exact hb
      · exact hno j c (by omega) hjc
  · obtain ⟨u, rfl, eI, hno⟩ := hI
    walk_at "go"
    refine q _ _ ?_ (.inl ⟨rfl, fun c hc => ?_⟩)
    · walk_at "ex"
    · obtain ⟨j, hj, e⟩ := List.mem_iff_getElem.mp hc
      exact hno j c (by rw [a2.1]; exact hj) (by rw [List.getElem?_eq_getElem hj, e])
theorem u_wrong_at {r : Addr} {R : Rl} {pt : Bool} {l h : Int} {H : Hp} {Q : VK} {E : XK} (hR : RuleI K H r R) (q : ∀ v H', Ex H H' → WA K R pt l h v H' → Q v H') : sp_wrong_at K [.ref r, .str (dS pt), .int l, .int h] H Q E :=
  ⟨(r, R, pt, l, h), rfl, hR, q⟩
local macro_rules | `(tactic| walk_at "st") => `(tactic| first
  | ((with_reducible refine' u_wrong_at ?ha ?_); (case ha => walk_at "kn"); (refine' fun _ _ _ _ => ?_)))
def sp_breaks (K : PySem.W.Frag) : Sp := PR (fun i : Addr × Rl × Bool × Int × Int => [.ref i.1, .str (dS i.2.2.1), .int i.2.2.2.1, .int i.2.2.2.2]) (fun i H => RuleI K H i.1 i.2.1 ∧ (1 ≤ i.2.2.2.1 ∧ i.2.2.2.1 ≤ 900) ∧ (1 ≤ i.2.2.2.2 ∧ i.2.2.2.2 ≤ 900)) fun i _ v H' => BK K i.2.1 i.2.2.1 i.2.2.2.1 i.2.2.2.2 v H'
theorem ok_breaks (T : TX K mg) : Ok P w K mg base 13 (He.ga K "breaks") ["rule", "deed", "light", "heavy"] (sp_breaks K) := by
  obtain ⟨fd, F⟩ := T.F_breaks
  obtain ⟨_, G_need_weight_rule, b_need_weight_rule, k_need_weight_rule⟩ := ok_need_weight_rule (P := P) (w := w) (base := base) T
  obtain ⟨_, G_need_deed, b_need_deed, k_need_deed⟩ := ok_need_deed (P := P) (w := w) (base := base) T
  obtain ⟨_, G_is_within, b_is_within, k_is_within⟩ := ok_is_within (P := P) (w := w) (base := base) T
  obtain ⟨_, G_heavy_weights, b_heavy_weights, k_heavy_weights⟩ := ok_heavy_weights (P := P) (w := w) (base := base) T
  obtain ⟨_, G_wrong_at, b_wrong_at, k_wrong_at⟩ := ok_wrong_at (P := P) (w := w) (base := base) T
  refine ⟨fd, okN F sc_breaks (by first | exact SV.len (fun _ => rfl) | exact PR.len (fun _ => rfl) | exact SJ.len (fun _ => rfl) | exact spEqB_len) (fun cdv A outer s H vs Q E hr h => ?_), F.bindsN (fun _ _ _ _ _ _ us hl => match us, hl with | [_, _, _, _], _ => rfl), F.kp⟩
  obtain ⟨⟨r, R, pt, l, hh⟩, rfl, ⟨hR, h1, h2⟩, q⟩ := h
  dsimp only at hR h1 h2 q
  refine ⟨_, (pss_cons (ps_expr (pe_call G_need_weight_rule (hr.mono (by decide)) (by rfl) T.g_need_weight_rule k_need_weight_rule b_need_weight_rule .nil pass0 (pa_cons (pv 0) pa_nil)))
      (pss_cons (ps_expr (pe_call G_need_deed (hr.mono (by decide)) (by rfl) T.g_need_deed k_need_deed b_need_deed .nil pass0 (pa_cons (pv 1) pa_nil)))
      (pss_cons (ps_for PassesOwn.never rfl (pi_tup (pe_tup (pa_cons (pv 2) (pa_cons (pv 3) pa_nil)))) (pg_name (i := 4) sc_breaks.nd rfl (by first | exact Or.inl rfl | exact Or.inr rfl)) (pss_one (ps_if (pt_not (pt_val (pe_call G_is_within (hr.mono (by decide)) (by rfl) T.g_is_within k_is_within b_is_within .nil pass0 (pa_cons (pv 4) (pa_cons pe_int (pa_cons (pe_glob (v := .int 1000000000000) (by rfl) T.g_MOST_ASKED.choose_spec ⟨_, rfl⟩) pa_nil)))))) pss_never pss_nil)))
      (pss_one (ps_ret (pe_ifExp (pt_cmpR op_in_seq (pv 3) (pe_call G_heavy_weights (hr.mono (by decide)) (by rfl) T.g_heavy_weights k_heavy_weights b_heavy_weights .nil pass0 (pa_cons (pv 0) (pa_cons (pv 1) (pa_cons (pv 2) pa_nil)))) rfl) (pe_call G_wrong_at (hr.mono (by decide)) (by rfl) T.g_wrong_at k_wrong_at b_wrong_at .nil pass0 (pa_cons (pv 0) (pa_cons (pv 1) (pa_cons (pv 2) (pa_cons (pv 3) pa_nil))))) pe_non)))))), ?_⟩
  walk_at "run"
  rename_i tp H1 hn1 e1 ht
  refine for_tup (K := K) (xs := [.int l, .int hh]) (fun i σ' H' => ∃ u, σ' = [some (.ref r), some (.str (dS pt)), some (.int l), some (.int hh), u] ∧ Ex H1 H') ⟨none, rfl, Ex.refl _⟩ (fun i σ' H' _ hI => ex_t hI.choose_spec.2 (SqT.of ht)) (fun i x σ' H' hx hI => ?_) (fun σ' H' hI => ?_)
  · obtain ⟨u, rfl, eI⟩ := hI
    obtain ⟨w', rfl, hw1, hw2⟩ : ∃ w' : Int, x = .int w' ∧ 1 ≤ w' ∧ w' ≤ 900 := by
      have hm := List.mem_of_getElem? hx
      simp only [List.mem_cons, List.not_mem_nil, or_false] at hm
      rcases hm with rfl | rfl
      · exact ⟨_, rfl, h1⟩
      · exact ⟨_, rfl, h2⟩
    walk_at "go"
    exact ⟨_, rfl, by walk_at "ex"⟩
  · obtain ⟨u, rfl, eI⟩ := hI
    walk_at "go"
    refine k_dec (fun g => ?_) (fun g => ?_)
    · walk_at "go"
      rename_i v H2 e2 hW
      refine q _ _ ?_ ?_
      · walk_at "ex"
      · rcases hW with ⟨rfl, hn⟩ | ⟨a, o, w', xs, rfl, hm, hw, hN⟩
        · exact .inl ⟨rfl, fun _ => hn⟩
        · exact .inr ⟨g, a, o, w', xs, rfl, hm, hw, hN⟩
    · walk_at "go"
      refine q _ _ ?_ (.inl ⟨rfl, fun z => absurd z g⟩)
      walk_at "ex"
theorem u_breaks {r : Addr} {R : Rl} {pt : Bool} {l h : Int} {H : Hp} {Q : VK} {E : XK} (hR : RuleI K H r R) (c : (1 ≤ l ∧ l ≤ 900) ∧ (1 ≤ h ∧ h ≤ 900)) (q : ∀ v H', Ex H H' → BK K R pt l h v H' → Q v H') : sp_breaks K [.ref r, .str (dS pt), .int l, .int h] H Q E :=
  ⟨(r, R, pt, l, h), rfl, ⟨hR, c.1, c.2⟩, q⟩
local macro_rules | `(tactic| walk_at "st") => `(tactic| first
  | ((with_reducible refine' u_breaks ?ha ?hb ?_); (case ha => walk_at "kn"); (case hb => assumption); (refine' fun _ _ _ _ => ?_)))

end
end M
namespace M
open PySem PySem.Spec PyProof.Rows L2 Evl
local macro_rules | `(tactic| walk_at "ar") => `(tactic| first | exact rfl | omega | (simp only [List.length_map, List.length_cons, List.length_nil] at *; omega) | decide)
local macro_rules | `(tactic| walk_at "ex") => `(tactic| first | with_reducible assumption | exact Ex.refl _ | (refine' Ex.trans ?a ?b; (case b => with_reducible assumption); (case a => walk_at "ex")) | (refine' Ex.mu2 ?a ?n ?b; (case b => with_reducible assumption); (case n => with_reducible assumption); (case a => walk_at "ex")))
local macro_rules | `(tactic| walk_at "exn") => `(tactic| first | with_reducible assumption | exact ExN.refl _ | (refine' ExN.trans ?a (ExN.of ?b); (case b => with_reducible assumption); (case a => walk_at "exn")) | (refine' ExN.trans ?a ?b; (case b => with_reducible assumption); (case a => walk_at "exn")))
local macro_rules | `(tactic| walk_at "ln") => `(tactic| first | exact rfl | omega | (simp only [scaleF, addF, List.length_map, List.length_zip, List.length_cons, List.length_nil] <;> omega))
local macro_rules | `(tactic| walk_at "kn") => `(tactic| first
  | with_reducible assumption
  | ((with_reducible refine' Fld.mono ?e ?m); (case e => with_reducible assumption); (case m => walk_at "kn"))
  | ((with_reducible refine' Ins.mono ?e ?m); (case e => with_reducible assumption); (case m => walk_at "kn"))
  | ((with_reducible refine' SqT.of ?m); (case m => walk_at "kn"))
  | ((with_reducible refine' SqL.of ?m); (case m => walk_at "kn"))
  | with_reducible exact kn_DEEDS (by assumption)
  | with_reducible exact kn_INNER (by assumption)
  | with_reducible exact kn_ONCE (by assumption)
  | with_reducible exact kn_TWICE (by assumption)
  | ((with_reducible refine' RB.mono ?e ?m); (case e => with_reducible assumption); (case m => walk_at "kn"))
  | ((with_reducible refine' RuleI.mono ?e ?m); (case e => with_reducible assumption); (case m => walk_at "kn"))
  | ((with_reducible refine' TestAt.mono ?e ?m); (case e => with_reducible assumption); (case m => walk_at "kn"))
  | ((with_reducible refine' TO_mono ?e ?m); (case e => with_reducible assumption); (case m => walk_at "kn"))
  | ((with_reducible refine' CaseAt.mono ?e ?m); (case e => with_reducible assumption); (case m => walk_at "kn"))
  | ((with_reducible refine' LT.fair ?e ?m); (case e => with_reducible assumption); (case m => with_reducible assumption))
  | ((with_reducible refine' LT.turn ?e ?m); (case e => with_reducible assumption); (case m => with_reducible assumption))
  | ((with_reducible refine' FormsB.mono ?e ?m); (case e => with_reducible assumption); (case m => walk_at "kn"))
  | ((with_reducible refine' tl_mono ?e ?m); (case e => with_reducible assumption); (case m => walk_at "kn"))
  | ((with_reducible refine' ExN.t ?e ?m); (case e => with_reducible assumption); (case m => walk_at "kn"))
  | ((with_reducible refine' ExN.fld ?e ?m); (case e => with_reducible assumption); (case m => walk_at "kn"))
  | ((with_reducible refine' ExN.ins ?e ?m); (case e => with_reducible assumption); (case m => walk_at "kn"))
  | ((with_reducible refine' RuleI.monoN ?e ?m); (case e => with_reducible assumption); (case m => walk_at "kn"))
  | ((with_reducible refine' TestAt.monoN ?e ?m); (case e => with_reducible assumption); (case m => walk_at "kn"))
  | ((with_reducible refine' CaseAt.monoN ?e ?m); (case e => with_reducible assumption); (case m => walk_at "kn"))
  | ((with_reducible refine' FormsB.monoN ?e ?m); (case e => with_reducible assumption); (case m => walk_at "kn"))
  | ((with_reducible refine' tl_monoN ?e ?m); (case e => with_reducible assumption); (case m => walk_at "kn"))
  | ((with_reducible refine' LT.mono ?e ?m); (case e => with_reducible assumption); (case m => walk_at "kn"))
  | ((with_reducible refine' PairI.mono ?e ?m); (case e => with_reducible assumption); (case m => walk_at "kn"))
  | ((with_reducible refine' WrongAt.mono ?e ?m); (case e => with_reducible assumption); (case m => walk_at "kn"))
  | ((with_reducible refine' ex_t ?e ?m); (case e => with_reducible assumption); (case m => walk_at "kn"))
  | ((with_reducible refine' ex_l ?e ?m); (case e => with_reducible assumption); (case m => walk_at "kn"))
  | ((with_reducible refine' Ex.at ?e ?m); (case e => with_reducible assumption); (case m => walk_at "kn"))
  | ((with_reducible refine' Mu.t ?e ?n ?m); (case e => with_reducible assumption); (case n => with_reducible assumption); (case m => walk_at "kn"))
  | ((with_reducible refine' Mu.lst ?e ?n ?m); (case e => with_reducible assumption); (case n => with_reducible assumption); (case m => walk_at "kn"))
  | ((with_reducible refine' Mu.fld ?e ?n ?m); (case e => with_reducible assumption); (case n => with_reducible assumption); (case m => walk_at "kn")))
local macro_rules | `(tactic| walk_at "st") => `(tactic| first
  | with_reducible refine k_seq ?_
  | with_reducible refine k_asg ?_
  | with_reducible refine k_ret ?_
  | with_reducible refine k_drop ?_
  | with_reducible refine k_ifS ?_
  | with_reducible refine k_name ?_
  | with_reducible refine k_next ?_
  | ((with_reducible refine' k_var ?hv ?_); case hv => exact rfl)
  | with_reducible refine k_c ?_
  | with_reducible refine k_fld ?_
  | ((with_reducible refine' k_fld2 ?hv ?_); case hv => walk_at "kn")
  | with_reducible refine k_op ?_
  | with_reducible refine k_un ?_
  | with_reducible refine k_add ?_
  | with_reducible refine k_sub ?_
  | with_reducible refine k_neg ?_
  | ((with_reducible refine' k_mul ?hv ?_); case hv => first | (left; constructor <;> omega) | (right; constructor <;> omega))
  | ((with_reducible refine' k_fdiv ?hv ?_); case hv => constructor <;> omega)
  | ((with_reducible refine' k_mod ?hv ?_); case hv => omega)
  | with_reducible refine k_lt ?_
  | with_reducible refine k_le ?_
  | with_reducible refine k_gt ?_
  | with_reducible refine k_ge ?_
  | with_reducible refine k_eqI ?_
  | with_reducible refine k_eqT ?_
  | with_reducible refine k_neI ?_
  | with_reducible refine k_isN_int ?_
  | with_reducible refine k_isN_ref ?_
  | with_reducible refine k_isN_non ?_
  | with_reducible refine k_notN_int ?_
  | with_reducible refine k_notN_ref ?_
  | with_reducible refine k_notN_non ?_
  | with_reducible refine k_test ?_
  | with_reducible refine k_B ?_
  | with_reducible refine k_bx ?_
  | with_reducible refine k_not ?_
  | with_reducible refine k_notV ?_
  | with_reducible refine k_and ?_
  | with_reducible refine k_or ?_
  | with_reducible refine k_andV ?_
  | with_reducible refine k_orV ?_
  | with_reducible refine k_if ?_
  | with_reducible refine k_chain ?_
  | with_reducible refine iteT ?_
  | with_reducible refine iteF ?_
  | with_reducible refine k_nil ?_
  | with_reducible refine k_cons ?_
  | with_reducible refine k_tup ?_
  | with_reducible refine k_lst ?_
  | with_reducible refine k_call ?_
  | with_reducible refine k_meth ?_
  | ((with_reducible refine' k_meth2 ?hv ?_); case hv => walk_at "kn")
  | with_reducible refine k_make ?_
  | with_reducible refine k_cb ?_
  | with_reducible refine k_min2 ?_
  | with_reducible refine k_max2 ?_
  | with_reducible refine k_int1 ?_
  | with_reducible refine k_int1b ?_
  | with_reducible refine k_abs1 ?_
  | ((with_reducible refine' k_gtup ?hv ?hw ?_); (case hv => walk_at "kn"); (case hw => rfl))
  | with_reducible refine k_gcons ?_
  | with_reducible refine k_gnil ?_
  | with_reducible refine k_isi_ii ?_
  | with_reducible refine k_isi_ib ?_
  | with_reducible refine k_isi_ss ?_
  | ((with_reducible refine' k_isi_tt ?hv ?_); case hv => walk_at "kn")
  | with_reducible refine iteNT ?_
  | with_reducible refine iteNF ?_
  | with_reducible refine k_cval ?_
  | ((with_reducible refine' k_cval2 ?hv ?_); case hv => exact kn_most (by assumption))
  | with_reducible refine k_lc ?_
  | with_reducible refine k_iT ?_
  | ((with_reducible refine' k_iT2 ?hv ?_); case hv => walk_at "kn")
  | with_reducible refine k_iL ?_
  | ((with_reducible refine' k_iL2 ?hv ?_); case hv => walk_at "kn")
  | with_reducible refine k_i1 ?_
  | ((with_reducible refine' k_i1a ?hv ?_); case hv => constructor <;> omega)
  | with_reducible refine k_i2 ?_
  | ((with_reducible refine' k_i2a ?hv ?_); case hv => refine ⟨?_, ?_, ?_, ?_⟩ <;> omega)
  | with_reducible refine k_iZ ?_
  | ((with_reducible refine' k_iZa ?hv ?hw ?_); (case hv => walk_at "kn"); (case hw => walk_at "kn"))
  | with_reducible refine k_iN ?_
  | ((with_reducible refine' k_lenT ?hv ?_); case hv => walk_at "kn")
  | ((with_reducible refine' k_lenL ?hv ?_); case hv => walk_at "kn")
  | ((with_reducible refine' k_ixT ?hv ?hw ?_); (case hv => walk_at "kn"); (case hw => rfl))
  | ((with_reducible refine' k_tupL ?hv ?_); (case hv => walk_at "kn"); (refine' fun _ _ _ _ _ => ?_))
  | ((with_reducible refine' k_tupT ?hv ?_); (case hv => walk_at "kn"))
  | ((with_reducible refine' k_new ?hv ?_); (case hv => (simp only [List.length_cons, List.length_nil]; exact sze _ (by omega))); (refine' fun _ _ _ _ _ => ?_))
  | ((with_reducible refine' k_isiW ?hT ?hv ?_); (case hT => assumption); (case hv => walk_at "kn"))
  | ((with_reducible refine' k_isiT ?hT ?hv ?_); (case hT => assumption); (case hv => walk_at "kn"))
  | ((with_reducible refine' k_isiC ?hT ?hv ?_); (case hT => assumption); (case hv => walk_at "kn"))
  | ((with_reducible refine' k_isiLT ?hv ?hw ?_); (case hv => walk_at "kn"); (case hw => walk_at "kn"))
  | ((with_reducible refine' k_isN_TO ?hv ?_); (case hv => walk_at "kn"))
  | ((with_reducible refine' k_notN_TO ?hv ?_); (case hv => walk_at "kn"))
  | ((with_reducible refine' k_notInDeeds ?hv ?_); (case hv => walk_at "kn"))
  | with_reducible refine k_eqPut ?_
  | ((refine' k_eqB .inn ?hv ?hw ?hx ?_); (case hv => walk_at "kn"); (case hw => walk_at "kn"); (case hx => rfl))
  | ((refine' k_eqB .lf ?hv ?hw ?hx ?_); (case hv => walk_at "kn"); (case hw => walk_at "kn"); (case hx => rfl))
  | ((refine' k_eqB .ls ?hv ?hw ?hx ?_); (case hv => walk_at "kn"); (case hw => walk_at "kn"); (case hx => rfl))
  | ((refine' k_eqB .ff ?hv ?hw ?hx ?_); (case hv => walk_at "kn"); (case hw => walk_at "kn"); (case hx => rfl))
  | ((refine' k_eqB .fs ?hv ?hw ?hx ?_); (case hv => walk_at "kn"); (case hw => walk_at "kn"); (case hx => rfl))
  | ((refine' k_eqB .tf ?hv ?hw ?hx ?_); (case hv => walk_at "kn"); (case hw => walk_at "kn"); (case hx => rfl))
  | ((with_reducible refine' k_yes ?hv ?_); (case hv => walk_at "ar"))
  | ((with_reducible refine' k_no ?hv ?_); (case hv => walk_at "ar"))
  | ((with_reducible refine' k_nyes ?hv ?_); (case hv => walk_at "ar"))
  | ((with_reducible refine' k_nno ?hv ?_); (case hv => walk_at "ar"))
  | with_reducible refine k_sfld ?_
  | ((with_reducible refine' k_ixL ?hv ?hw ?_); (case hv => walk_at "kn"); (case hw => rfl))
  | ((with_reducible refine' k_sumTu _ ?hv ?_); (case hv => walk_at "kn"))
  | ((with_reducible refine' u_is_integer  ?_); (refine' fun _ _ => ?_))
  | ((with_reducible refine' u_over ?ha ?_); (case ha => constructor <;> omega); (refine' fun _ _ => ?_))
  | ((with_reducible refine' u_is_within ?ha ?_); (case ha => constructor <;> omega); (refine' fun _ _ => ?_))
  | ((with_reducible refine' u_need_plus ?ha ?_); (case ha => constructor <;> omega); (refine' fun _ _ => ?_))
  | ((with_reducible refine' u_need_weight ?ha ?_); (case ha => constructor <;> omega); (refine' fun _ _ => ?_))
  | ((with_reducible refine' u_is_times ?ha ?hb ?_); (case ha => walk_at "kn"); (case hb => refine ⟨⟨?_, ?_⟩, ?_, ?_⟩ <;> omega); (refine' fun _ _ => ?_))
  | ((with_reducible refine' u_beside ?ha ?_); (case ha => walk_at "kn"); (refine' fun _ _ => ?_))
  | ((with_reducible refine' u_greatest ?ha ?hb ?_); (case ha => walk_at "kn"); (case hb => constructor <;> omega); (refine' fun _ _ => ?_))
  | ((with_reducible refine' u_need_weight_rule ?ha ?_); (case ha => walk_at "kn"); (refine' fun _ _ => ?_))
  | ((with_reducible refine' u_need_deed  ?_); (refine' fun _ _ => ?_))
  | ((with_reducible refine' u_has_three ?ha ?_); (case ha => walk_at "kn"); (refine' fun _ _ => ?_))
  | ((with_reducible refine' u_scaled ?ha ?hb ?_); (case ha => walk_at "kn"); (case hb => refine ⟨⟨?_, ?_⟩, ?_⟩ <;> (walk_at "ln")); (refine' fun _ _ _ _ => ?_))
  | ((with_reducible refine' u_added ?ha ?hb ?hc ?_); (case ha => walk_at "kn"); (case hb => walk_at "kn"); (case hc => constructor <;> (walk_at "ln")); (refine' fun _ _ _ _ => ?_))
  | ((with_reducible refine' u_amount ?ha ?hb ?hc ?_); (case ha => walk_at "kn"); (case hb => walk_at "kn"); (case hc => assumption); (refine' fun _ _ => ?_))
  | ((with_reducible refine' u_mk_Test ?ha ?hb ?_); (case ha => walk_at "kn"); (case hb => assumption); (refine' fun _ _ _ _ => ?_))
  | ((with_reducible refine' k_eq1st  ?_))
  | ((with_reducible refine' u_heavy_form ?ha ?_); (case ha => walk_at "kn"); (refine' fun _ _ _ _ => ?_))
  | ((with_reducible refine' u_sides ?ha ?hb ?_); (case ha => walk_at "kn"); (case hb => assumption); (refine' fun _ _ _ _ _ _ _ _ => ?_))
  | ((with_reducible refine' u_fair_tests ?ha ?hb ?hc ?hd ?_); (case ha => walk_at "kn"); (case hb => walk_at "kn"); (case hc => walk_at "kn"); (case hd => assumption); (refine' fun _ _ _ _ _ _ => ?_))
  | ((with_reducible refine' u_unfair_test ?ha ?hb ?hc ?hd ?_); (case ha => walk_at "kn"); (case hb => walk_at "kn"); (case hc => walk_at "kn"); (case hd => assumption); (refine' fun _ _ _ _ => ?_))
  | ((with_reducible refine' k_eq1st  ?_))
  | ((with_reducible refine' u_turn_tests ?ha ?hb ?_); (case ha => walk_at "kn"); (case hb => walk_at "kn"); (refine' fun _ _ _ _ _ _ => ?_))
  | ((with_reducible refine' u_break_test ?ha ?hb ?hc ?hd ?_); (case ha => walk_at "kn"); (case hb => walk_at "kn"); (case hc => walk_at "kn"); (case hd => assumption); (refine' fun _ _ _ _ => ?_))
  | ((with_reducible refine' k_ifv ?ha ?hb ?_); (case ha => exact rfl); (case hb => exact rfl))
  | ((with_reducible refine' k_apT ?ha ?hb ?hc ?_); (case ha => walk_at "kn"); (case hb => omega); (case hc => first | with_reducible assumption | (with_reducible exact TL.mk2 (by assumption)) | (with_reducible exact TL.mk (by assumption))); (refine' fun _ _ _ _ => ?_))
  | ((with_reducible refine' k_exT ?ha ?hb ?hc ?_); (case ha => walk_at "kn"); (case hb => walk_at "kn"); (case hc => omega); (refine' fun _ _ _ _ => ?_))
  | ((with_reducible refine' k_bm  ?_))
  | ((with_reducible refine' k_bmL ?ha ?_); (case ha => walk_at "kn"))
  | ((with_reducible refine' k_tupLT ?ha ?_); (case ha => walk_at "kn"); (refine' fun _ _ _ _ _ _ => ?_))
  | ((with_reducible refine' u_mk_Case ?ha ?hb ?_); (case ha => walk_at "kt"); (case hb => walk_at "kt"); (refine' fun _ _ _ _ => ?_))
  | ((with_reducible refine' k_bmL1 ?ha ?_); (case ha => walk_at "kn"))
  | ((with_reducible refine' k_for  ?_))
  | ((with_reducible refine' u_all_cases ?ha ?_); (case ha => walk_at "kn"); (refine' fun _ _ _ _ _ _ => ?_))
  | ((with_reducible refine' u_need_case ?ha ?hb ?hc ?_); (case ha => walk_at "kn"); (case hb => walk_at "kn"); (case hc => assumption); (refine' fun _ _ => ?_))
  | ((with_reducible refine' u_tests_in ?ha ?hb ?hc ?_); (case ha => walk_at "kn"); (case hb => walk_at "kn"); (case hc => assumption); (refine' fun _ _ _ _ _ _ => ?_))
  | ((with_reducible refine' k_callI0  ?_))
  | ((with_reducible refine' k_callI1  ?_))
  | ((with_reducible refine' k_gfld  ?_))
  | ((with_reducible refine' u_inner_stretch ?ha ?_); (case ha => walk_at "kn"); (refine' fun _ _ _ _ => ?_))
  | ((with_reducible refine' u_turned_stretch ?ha ?hb ?hc ?_); (case ha => walk_at "kn"); (case hb => walk_at "kn"); (case hc => assumption); (refine' fun _ _ _ _ => ?_))
  | ((with_reducible refine' u_once_stretch ?ha ?hb ?hc ?_); (case ha => walk_at "kn"); (case hb => walk_at "kn"); (case hc => walk_at "kn"); (refine' fun _ _ _ _ => ?_))
  | ((with_reducible refine' u_near_stretch ?ha ?hb ?_); (case ha => walk_at "kn"); (case hb => walk_at "kn"); (refine' fun _ _ _ _ => ?_))
  | ((with_reducible refine' u_near_for ?ha ?hb ?_); (case ha => walk_at "kn"); (case hb => walk_at "kn"); (refine' fun _ _ => ?_))
  | ((with_reducible refine' k_isN_oV  ?_))
  | ((with_reducible refine' k_notN_oV  ?_))
  | ((with_reducible refine' u_stretch_of ?ha ?hb ?hc ?_); (case ha => walk_at "kn"); (case hb => walk_at "kn"); (case hc => assumption); (refine' fun _ _ _ _ => ?_))
  | ((with_reducible refine' u_can_break ?ha ?hb ?hc ?_); (case ha => walk_at "kn"); (case hb => walk_at "kn"); (case hc => assumption); (refine' fun _ _ => ?_))
  | ((with_reducible refine' u_numbers_for ?ha ?hb ?hc ?hd ?_); (case ha => walk_at "kn"); (case hb => walk_at "kn"); (case hc => assumption); (case hd => assumption); (refine' fun _ _ _ _ _ _ => ?_))
  | ((with_reducible refine' k_lrg  ?_))
  | ((with_reducible refine' k_lrg2 ?ha ?_); (case ha => assumption); (refine' fun _ _ _ _ => ?_))
  | ((with_reducible refine' k_inRg ?ha ?_); (case ha => walk_at "kn"))
  | ((with_reducible refine' u_heavy_weights ?ha ?hb ?_); (case ha => walk_at "kn"); (case hb => constructor <;> omega); (refine' fun _ _ _ _ => ?_))
  | ((with_reducible refine' u_mk_Wrong ?ha ?hb ?hc ?_); (case ha => walk_at "kn"); (case hb => walk_at "kn"); (case hc => walk_at "kn"); (refine' fun _ _ _ _ => ?_))
  | ((with_reducible refine' u_mk_Pair ?ha ?_); (case ha => walk_at "kn"); (refine' fun _ _ _ _ => ?_))
  | ((with_reducible refine' u_wrong_at ?ha ?_); (case ha => walk_at "kn"); (refine' fun _ _ _ _ => ?_))
  | ((with_reducible refine' u_breaks ?ha ?hb ?_); (case ha => walk_at "kn"); (case hb => assumption); (refine' fun _ _ _ _ => ?_)))
local macro_rules | `(tactic| walk_at "go") => `(tactic| repeat (walk_at "st"))
local macro_rules | `(tactic| walk_at "run") => `(tactic| (dsimp only [cxK]; walk_at "go"))

section
variable {P : Program} {w : World} {K : PySem.W.Frag} {mg : Str → Option Value} {base : Heap}
/-- what the top has left of the rules -/
structure TR (P : Program) (K : PySem.W.Frag) : Prop where
  nn_TryRule : StatM K (He.ga K "TryRule") "need_numbers" (He.ma K (He.ga K "WeightRule") "need_numbers") (nnF K)
  nn_TurnRule : StatM K (He.ga K "TurnRule") "need_numbers" (He.ma K (He.ga K "WeightRule") "need_numbers") (nnF K)
  s_TryRule : ∃ fd cc cda, FunS K "__init__" "TryRule.__init__" (defArgs s_TryRule_init) (defBody s_TryRule_init) (defScope s_TryRule_init) cc cda [.int 0] [] (He.ma K (He.ga K "TryRule") "__init__") fd ∧
    SupK P K (He.ga K "TryRule") (He.ga K "TryRule") (He.ma K (He.ga K "TryRule") "__init__") (He.ma K (He.ga K "WeightRule") "__init__") cc cda fd
  s_TurnRule : ∃ fd cc cda, FunS K "__init__" "TurnRule.__init__" (defArgs s_TurnRule_init) (defBody s_TurnRule_init) (defScope s_TurnRule_init) cc cda [.int 0] [("turn_plus", .int 0)] (He.ma K (He.ga K "TurnRule") "__init__") fd ∧
    SupK P K (He.ga K "TurnRule") (He.ga K "TurnRule") (He.ma K (He.ga K "TurnRule") "__init__") (He.ma K (He.ga K "WeightRule") "__init__") cc cda fd
theorem TR.nn_R {P : Program} {K : PySem.W.Frag} (T2 : TR P K) (R : Rl) : StatM K (rC K R) "need_numbers" (He.ma K (He.ga K "WeightRule") "need_numbers") (nnF K) := by
  unfold rC
  split
  · exact T2.nn_TurnRule
  · exact T2.nn_TryRule
theorem TX.na_R_times (T : TX K mg) (R : Rl) : NoAttr K (rC K R) "times" := by
  unfold rC
  split
  · exact T.na_TurnRule_times
  · exact T.na_TryRule_times
theorem TX.na_R_plus (T : TX K mg) (R : Rl) : NoAttr K (rC K R) "plus" := by
  unfold rC
  split
  · exact T.na_TurnRule_plus
  · exact T.na_TryRule_plus
def sp_WeightRule_init (K : PySem.W.Frag) : Sp := fun vs H Q _ => ∃ (R : Rl) (x dx tp : Addr), vs = [.ref x, .ref tp, .int R.k] ∧ H x = some (.ins (rC K R) dx []) ∧ R.Ok ∧ SqT K H tp [.int R.p, .int R.q] ∧
  ∀ H', Mu x H H' → H' x = some (.ins (rC K R) dx (putF "plus" (.int R.k) (putF "times" (.ref tp) []))) → Q .non H'
theorem sp_WeightRule_init_len (vs : List V) (H : Hp) (Q : VK) (E : XK) (h : sp_WeightRule_init K vs H Q E) : vs.length = 3 := by
  obtain ⟨R, x, dx, tp, rfl, _⟩ := h
  rfl
theorem u_need_numbers {tp : Addr} {R : Rl} {H : Hp} {Q : VK} {E : XK} (hS : SqT K H tp [.int R.p, .int R.q]) (ok : R.Ok) (q : ∀ H', Ex H H' → Q .non H') : sp_WeightRule_need_numbers K [.ref tp, .int R.k] H Q E :=
  ⟨(tp, R.p, R.q, R.k), rfl, ⟨hS, ⟨ok.q1, ok.qp, ok.p6⟩, ok.k1, ok.k6⟩, q⟩
local macro_rules | `(tactic| walk_at "st") => `(tactic| first
  | ((with_reducible refine' u_need_numbers ?ha ?hb ?_); (case ha => walk_at "kn"); (case hb => assumption); (refine' fun _ _ => ?_)))
local macro_rules | `(tactic| walk_at "st") => `(tactic| first
  | ((with_reducible refine' k_stat  ?_)))
local macro_rules | `(tactic| walk_at "st") => `(tactic| first
  | ((with_reducible refine' k_stat2 ?ha ?_); (case ha => walk_at "kn")))
theorem ok_WeightRule_init (T : TX K mg) (T2 : TR P K) : Ok P w K mg base 9 (He.ma K (He.ga K "WeightRule") "__init__") ["self", "times", "plus"] (sp_WeightRule_init K) := by
  obtain ⟨fd, F⟩ := T.F_WeightRule_init
  obtain ⟨_, G_WeightRule_need_numbers, b_WeightRule_need_numbers, _⟩ := ok_WeightRule_need_numbers (P := P) (w := w) (base := base) T
  obtain ⟨_, G_WeightRule_beside, b_WeightRule_beside, _⟩ := ok_WeightRule_beside (P := P) (w := w) (base := base) T
  refine ⟨fd, okN F sc_WeightRule_init sp_WeightRule_init_len (fun cdv A outer s H vs Q E hr h => ?_), F.bindsN (fun _ _ _ _ _ _ us hl => match us, hl with | [_, _, _], _ => rfl), F.kp⟩
  obtain ⟨R, x, dx, tp, rfl, hx, ok, hS, q⟩ := h
  have hi : Ins H x (rC K R) "need_numbers" := ⟨dx, [], hx, rfl⟩
  refine ⟨_, (pss_cons (ps_expr (pe_stat (pv 0) (T2.nn_R R) G_WeightRule_need_numbers (hr.mono (by decide)) b_WeightRule_need_numbers pass0 (pa_cons (pv 1) (pa_cons (pv 2) pa_nil))))
      (pss_cons (ps_fld (pv 0) (pv 1) rfl)
      (pss_cons (ps_fld (pv 0) (pv 2) rfl)
      (pss_cons (ps_if (pt_cmpR op_lt (pe_meth (pv 0) (T.c_R R) (T.m_R_beside R) G_WeightRule_beside (hr.mono (by decide)) b_WeightRule_beside .nil pass0 (pa_cons pe_int pa_nil)) pe_int (nomark _)) pss_never pss_nil)
      (pss_one (ps_if (pt_cmpR op_lt (pe_meth (pv 0) (T.c_R R) (T.m_R_beside R) G_WeightRule_beside (hr.mono (by decide)) b_WeightRule_beside .nil pass0 (pa_cons pe_int pa_nil)) pe_int (nomark _)) pss_never pss_nil)))))), ?_⟩
  walk_at "run"
  refine' k_sf ?ha1 (T.c_R R) (T.na_R_times R) ?hb1 ?hc1
  case ha1 => walk_at "kn"
  case hb1 => exact (show 0 < 1000 by omega)
  refine' fun H1 m1 hx1 => ?_
  walk_at "go"
  refine' k_sf ?ha2 (T.c_R R) (T.na_R_plus R) ?hb2 ?hc2
  case ha2 => walk_at "kn"
  case hb2 => exact (show 1 < 1000 by omega)
  refine' fun H2 m2 hx2 => ?_
  rename_i H0 e0
  have m := (Ex.mu e0).trans (m1.trans m2)
  have rb : RB K H2 x R := ⟨⟨tp, fld_of hx2 (T.c_R R) (T.na_R_times R) rfl, m.t hx hS⟩, fld_of hx2 (T.c_R R) (T.na_R_plus R) rfl⟩
  have ib : Ins H2 x (rC K R) "beside" := ⟨_, _, hx2, rfl⟩
  have b2 := (b_bd ok (show (1 : Int) ≤ 1 by omega) (by omega)).1
  have hq1 := ok.q1
  have hqp := ok.qp
  have hp6 := ok.p6
  walk_at "go"
  refine ⟨(x, 1, R), rfl, ⟨rb, by dsimp only; omega, by dsimp only; omega⟩, fun H3 e3 => ?_⟩
  dsimp only
  walk_at "go"
  refine ⟨(x, 1, R), rfl, ⟨rb.mono e3, by dsimp only; omega, by dsimp only; omega⟩, fun H4 e4 => ?_⟩
  dsimp only
  walk_at "go"
  exact q _ (m.trans ((Ex.mu e3).trans (Ex.mu e4))) (e4 _ _ (e3 _ _ hx2))

end
end M
namespace M
open PySem PySem.Spec PyProof.Rows L2 Evl
local macro_rules | `(tactic| walk_at "ar") => `(tactic| first | exact rfl | omega | (simp only [List.length_map, List.length_cons, List.length_nil] at *; omega) | decide)
local macro_rules | `(tactic| walk_at "ex") => `(tactic| first | with_reducible assumption | exact Ex.refl _ | (refine' Ex.trans ?a ?b; (case b => with_reducible assumption); (case a => walk_at "ex")) | (refine' Ex.mu2 ?a ?n ?b; (case b => with_reducible assumption); (case n => with_reducible assumption); (case a => walk_at "ex")))
local macro_rules | `(tactic| walk_at "exn") => `(tactic| first | with_reducible assumption | exact ExN.refl _ | (refine' ExN.trans ?a (ExN.of ?b); (case b => with_reducible assumption); (case a => walk_at "exn")) | (refine' ExN.trans ?a ?b; (case b => with_reducible assumption); (case a => walk_at "exn")))
local macro_rules | `(tactic| walk_at "ln") => `(tactic| first | exact rfl | omega | (simp only [scaleF, addF, List.length_map, List.length_zip, List.length_cons, List.length_nil] <;> omega))
local macro_rules | `(tactic| walk_at "kn") => `(tactic| first
  | with_reducible assumption
  | ((with_reducible refine' Fld.mono ?e ?m); (case e => with_reducible assumption); (case m => walk_at "kn"))
  | ((with_reducible refine' Ins.mono ?e ?m); (case e => with_reducible assumption); (case m => walk_at "kn"))
  | ((with_reducible refine' SqT.of ?m); (case m => walk_at "kn"))
  | ((with_reducible refine' SqL.of ?m); (case m => walk_at "kn"))
  | with_reducible exact kn_DEEDS (by assumption)
  | with_reducible exact kn_INNER (by assumption)
  | with_reducible exact kn_ONCE (by assumption)
  | with_reducible exact kn_TWICE (by assumption)
  | ((with_reducible refine' RB.mono ?e ?m); (case e => with_reducible assumption); (case m => walk_at "kn"))
  | ((with_reducible refine' RuleI.mono ?e ?m); (case e => with_reducible assumption); (case m => walk_at "kn"))
  | ((with_reducible refine' TestAt.mono ?e ?m); (case e => with_reducible assumption); (case m => walk_at "kn"))
  | ((with_reducible refine' TO_mono ?e ?m); (case e => with_reducible assumption); (case m => walk_at "kn"))
  | ((with_reducible refine' CaseAt.mono ?e ?m); (case e => with_reducible assumption); (case m => walk_at "kn"))
  | ((with_reducible refine' LT.fair ?e ?m); (case e => with_reducible assumption); (case m => with_reducible assumption))
  | ((with_reducible refine' LT.turn ?e ?m); (case e => with_reducible assumption); (case m => with_reducible assumption))
  | ((with_reducible refine' FormsB.mono ?e ?m); (case e => with_reducible assumption); (case m => walk_at "kn"))
  | ((with_reducible refine' tl_mono ?e ?m); (case e => with_reducible assumption); (case m => walk_at "kn"))
  | ((with_reducible refine' ExN.t ?e ?m); (case e => with_reducible assumption); (case m => walk_at "kn"))
  | ((with_reducible refine' ExN.fld ?e ?m); (case e => with_reducible assumption); (case m => walk_at "kn"))
  | ((with_reducible refine' ExN.ins ?e ?m); (case e => with_reducible assumption); (case m => walk_at "kn"))
  | ((with_reducible refine' RuleI.monoN ?e ?m); (case e => with_reducible assumption); (case m => walk_at "kn"))
  | ((with_reducible refine' TestAt.monoN ?e ?m); (case e => with_reducible assumption); (case m => walk_at "kn"))
  | ((with_reducible refine' CaseAt.monoN ?e ?m); (case e => with_reducible assumption); (case m => walk_at "kn"))
  | ((with_reducible refine' FormsB.monoN ?e ?m); (case e => with_reducible assumption); (case m => walk_at "kn"))
  | ((with_reducible refine' tl_monoN ?e ?m); (case e => with_reducible assumption); (case m => walk_at "kn"))
  | ((with_reducible refine' LT.mono ?e ?m); (case e => with_reducible assumption); (case m => walk_at "kn"))
  | ((with_reducible refine' PairI.mono ?e ?m); (case e => with_reducible assumption); (case m => walk_at "kn"))
  | ((with_reducible refine' WrongAt.mono ?e ?m); (case e => with_reducible assumption); (case m => walk_at "kn"))
  | ((with_reducible refine' ex_t ?e ?m); (case e => with_reducible assumption); (case m => walk_at "kn"))
  | ((with_reducible refine' ex_l ?e ?m); (case e => with_reducible assumption); (case m => walk_at "kn"))
  | ((with_reducible refine' Ex.at ?e ?m); (case e => with_reducible assumption); (case m => walk_at "kn"))
  | ((with_reducible refine' Mu.t ?e ?n ?m); (case e => with_reducible assumption); (case n => with_reducible assumption); (case m => walk_at "kn"))
  | ((with_reducible refine' Mu.lst ?e ?n ?m); (case e => with_reducible assumption); (case n => with_reducible assumption); (case m => walk_at "kn"))
  | ((with_reducible refine' Mu.fld ?e ?n ?m); (case e => with_reducible assumption); (case n => with_reducible assumption); (case m => walk_at "kn")))
local macro_rules | `(tactic| walk_at "st") => `(tactic| first
  | with_reducible refine k_seq ?_
  | with_reducible refine k_asg ?_
  | with_reducible refine k_ret ?_
  | with_reducible refine k_drop ?_
  | with_reducible refine k_ifS ?_
  | with_reducible refine k_name ?_
  | with_reducible refine k_next ?_
  | ((with_reducible refine' k_var ?hv ?_); case hv => exact rfl)
  | with_reducible refine k_c ?_
  | with_reducible refine k_fld ?_
  | ((with_reducible refine' k_fld2 ?hv ?_); case hv => walk_at "kn")
  | with_reducible refine k_op ?_
  | with_reducible refine k_un ?_
  | with_reducible refine k_add ?_
  | with_reducible refine k_sub ?_
  | with_reducible refine k_neg ?_
  | ((with_reducible refine' k_mul ?hv ?_); case hv => first | (left; constructor <;> omega) | (right; constructor <;> omega))
  | ((with_reducible refine' k_fdiv ?hv ?_); case hv => constructor <;> omega)
  | ((with_reducible refine' k_mod ?hv ?_); case hv => omega)
  | with_reducible refine k_lt ?_
  | with_reducible refine k_le ?_
  | with_reducible refine k_gt ?_
  | with_reducible refine k_ge ?_
  | with_reducible refine k_eqI ?_
  | with_reducible refine k_eqT ?_
  | with_reducible refine k_neI ?_
  | with_reducible refine k_isN_int ?_
  | with_reducible refine k_isN_ref ?_
  | with_reducible refine k_isN_non ?_
  | with_reducible refine k_notN_int ?_
  | with_reducible refine k_notN_ref ?_
  | with_reducible refine k_notN_non ?_
  | with_reducible refine k_test ?_
  | with_reducible refine k_B ?_
  | with_reducible refine k_bx ?_
  | with_reducible refine k_not ?_
  | with_reducible refine k_notV ?_
  | with_reducible refine k_and ?_
  | with_reducible refine k_or ?_
  | with_reducible refine k_andV ?_
  | with_reducible refine k_orV ?_
  | with_reducible refine k_if ?_
  | with_reducible refine k_chain ?_
  | with_reducible refine iteT ?_
  | with_reducible refine iteF ?_
  | with_reducible refine k_nil ?_
  | with_reducible refine k_cons ?_
  | with_reducible refine k_tup ?_
  | with_reducible refine k_lst ?_
  | with_reducible refine k_call ?_
  | with_reducible refine k_meth ?_
  | ((with_reducible refine' k_meth2 ?hv ?_); case hv => walk_at "kn")
  | with_reducible refine k_make ?_
  | with_reducible refine k_cb ?_
  | with_reducible refine k_min2 ?_
  | with_reducible refine k_max2 ?_
  | with_reducible refine k_int1 ?_
  | with_reducible refine k_int1b ?_
  | with_reducible refine k_abs1 ?_
  | ((with_reducible refine' k_gtup ?hv ?hw ?_); (case hv => walk_at "kn"); (case hw => rfl))
  | with_reducible refine k_gcons ?_
  | with_reducible refine k_gnil ?_
  | with_reducible refine k_isi_ii ?_
  | with_reducible refine k_isi_ib ?_
  | with_reducible refine k_isi_ss ?_
  | ((with_reducible refine' k_isi_tt ?hv ?_); case hv => walk_at "kn")
  | with_reducible refine iteNT ?_
  | with_reducible refine iteNF ?_
  | with_reducible refine k_cval ?_
  | ((with_reducible refine' k_cval2 ?hv ?_); case hv => exact kn_most (by assumption))
  | with_reducible refine k_lc ?_
  | with_reducible refine k_iT ?_
  | ((with_reducible refine' k_iT2 ?hv ?_); case hv => walk_at "kn")
  | with_reducible refine k_iL ?_
  | ((with_reducible refine' k_iL2 ?hv ?_); case hv => walk_at "kn")
  | with_reducible refine k_i1 ?_
  | ((with_reducible refine' k_i1a ?hv ?_); case hv => constructor <;> omega)
  | with_reducible refine k_i2 ?_
  | ((with_reducible refine' k_i2a ?hv ?_); case hv => refine ⟨?_, ?_, ?_, ?_⟩ <;> omega)
  | with_reducible refine k_iZ ?_
  | ((with_reducible refine' k_iZa ?hv ?hw ?_); (case hv => walk_at "kn"); (case hw => walk_at "kn"))
  | with_reducible refine k_iN ?_
  | ((with_reducible refine' k_lenT ?hv ?_); case hv => walk_at "kn")
  | ((with_reducible refine' k_lenL ?hv ?_); case hv => walk_at "kn")
  | ((with_reducible refine' k_ixT ?hv ?hw ?_); (case hv => walk_at "kn"); (case hw => rfl))
  | ((with_reducible refine' k_tupL ?hv ?_); (case hv => walk_at "kn"); (refine' fun _ _ _ _ _ => ?_))
  | ((with_reducible refine' k_tupT ?hv ?_); (case hv => walk_at "kn"))
  | ((with_reducible refine' k_new ?hv ?_); (case hv => (simp only [List.length_cons, List.length_nil]; exact sze _ (by omega))); (refine' fun _ _ _ _ _ => ?_))
  | ((with_reducible refine' k_isiW ?hT ?hv ?_); (case hT => assumption); (case hv => walk_at "kn"))
  | ((with_reducible refine' k_isiT ?hT ?hv ?_); (case hT => assumption); (case hv => walk_at "kn"))
  | ((with_reducible refine' k_isiC ?hT ?hv ?_); (case hT => assumption); (case hv => walk_at "kn"))
  | ((with_reducible refine' k_isiLT ?hv ?hw ?_); (case hv => walk_at "kn"); (case hw => walk_at "kn"))
  | ((with_reducible refine' k_isN_TO ?hv ?_); (case hv => walk_at "kn"))
  | ((with_reducible refine' k_notN_TO ?hv ?_); (case hv => walk_at "kn"))
  | ((with_reducible refine' k_notInDeeds ?hv ?_); (case hv => walk_at "kn"))
  | with_reducible refine k_eqPut ?_
  | ((refine' k_eqB .inn ?hv ?hw ?hx ?_); (case hv => walk_at "kn"); (case hw => walk_at "kn"); (case hx => rfl))
  | ((refine' k_eqB .lf ?hv ?hw ?hx ?_); (case hv => walk_at "kn"); (case hw => walk_at "kn"); (case hx => rfl))
  | ((refine' k_eqB .ls ?hv ?hw ?hx ?_); (case hv => walk_at "kn"); (case hw => walk_at "kn"); (case hx => rfl))
  | ((refine' k_eqB .ff ?hv ?hw ?hx ?_); (case hv => walk_at "kn"); (case hw => walk_at "kn"); (case hx => rfl))
  | ((refine' k_eqB .fs ?hv ?hw ?hx ?_); (case hv => walk_at "kn"); (case hw => walk_at "kn"); (case hx => rfl))
  | ((refine' k_eqB .tf ?hv ?hw ?hx ?_); (case hv => walk_at "kn"); (case hw => walk_at "kn"); (case hx => rfl))
  | ((with_reducible refine' k_yes ?hv ?_); (case hv => walk_at "ar"))
  | ((with_reducible refine' k_no ?hv ?_); (case hv => walk_at "ar"))
  | ((with_reducible refine' k_nyes ?hv ?_); (case hv => walk_at "ar"))
  | ((with_reducible refine' k_nno ?hv ?_); (case hv => walk_at "ar"))
  | with_reducible refine k_sfld ?_
  | ((with_reducible refine' k_ixL ?hv ?hw ?_); (case hv => walk_at "kn"); (case hw => rfl))
  | ((with_reducible refine' k_sumTu _ ?hv ?_); (case hv => walk_at "kn"))
  | ((with_reducible refine' u_is_integer  ?_); (refine' fun _ _ => ?_))
  | ((with_reducible refine' u_over ?ha ?_); (case ha => constructor <;> omega); (refine' fun _ _ => ?_))
  | ((with_reducible refine' u_is_within ?ha ?_); (case ha => constructor <;> omega); (refine' fun _ _ => ?_))
  | ((with_reducible refine' u_need_plus ?ha ?_); (case ha => constructor <;> omega); (refine' fun _ _ => ?_))
  | ((with_reducible refine' u_need_weight ?ha ?_); (case ha => constructor <;> omega); (refine' fun _ _ => ?_))
  | ((with_reducible refine' u_is_times ?ha ?hb ?_); (case ha => walk_at "kn"); (case hb => refine ⟨⟨?_, ?_⟩, ?_, ?_⟩ <;> omega); (refine' fun _ _ => ?_))
  | ((with_reducible refine' u_beside ?ha ?_); (case ha => walk_at "kn"); (refine' fun _ _ => ?_))
  | ((with_reducible refine' u_greatest ?ha ?hb ?_); (case ha => walk_at "kn"); (case hb => constructor <;> omega); (refine' fun _ _ => ?_))
  | ((with_reducible refine' u_need_weight_rule ?ha ?_); (case ha => walk_at "kn"); (refine' fun _ _ => ?_))
  | ((with_reducible refine' u_need_deed  ?_); (refine' fun _ _ => ?_))
  | ((with_reducible refine' u_has_three ?ha ?_); (case ha => walk_at "kn"); (refine' fun _ _ => ?_))
  | ((with_reducible refine' u_scaled ?ha ?hb ?_); (case ha => walk_at "kn"); (case hb => refine ⟨⟨?_, ?_⟩, ?_⟩ <;> (walk_at "ln")); (refine' fun _ _ _ _ => ?_))
  | ((with_reducible refine' u_added ?ha ?hb ?hc ?_); (case ha => walk_at "kn"); (case hb => walk_at "kn"); (case hc => constructor <;> (walk_at "ln")); (refine' fun _ _ _ _ => ?_))
  | ((with_reducible refine' u_amount ?ha ?hb ?hc ?_); (case ha => walk_at "kn"); (case hb => walk_at "kn"); (case hc => assumption); (refine' fun _ _ => ?_))
  | ((with_reducible refine' u_mk_Test ?ha ?hb ?_); (case ha => walk_at "kn"); (case hb => assumption); (refine' fun _ _ _ _ => ?_))
  | ((with_reducible refine' k_eq1st  ?_))
  | ((with_reducible refine' u_heavy_form ?ha ?_); (case ha => walk_at "kn"); (refine' fun _ _ _ _ => ?_))
  | ((with_reducible refine' u_sides ?ha ?hb ?_); (case ha => walk_at "kn"); (case hb => assumption); (refine' fun _ _ _ _ _ _ _ _ => ?_))
  | ((with_reducible refine' u_fair_tests ?ha ?hb ?hc ?hd ?_); (case ha => walk_at "kn"); (case hb => walk_at "kn"); (case hc => walk_at "kn"); (case hd => assumption); (refine' fun _ _ _ _ _ _ => ?_))
  | ((with_reducible refine' u_unfair_test ?ha ?hb ?hc ?hd ?_); (case ha => walk_at "kn"); (case hb => walk_at "kn"); (case hc => walk_at "kn"); (case hd => assumption); (refine' fun _ _ _ _ => ?_))
  | ((with_reducible refine' k_eq1st  ?_))
  | ((with_reducible refine' u_turn_tests ?ha ?hb ?_); (case ha => walk_at "kn"); (case hb => walk_at "kn"); (refine' fun _ _ _ _ _ _ => ?_))
  | ((with_reducible refine' u_break_test ?ha ?hb ?hc ?hd ?_); (case ha => walk_at "kn"); (case hb => walk_at "kn"); (case hc => walk_at "kn"); (case hd => assumption); (refine' fun _ _ _ _ => ?_))
  | ((with_reducible refine' k_ifv ?ha ?hb ?_); (case ha => exact rfl); (case hb => exact rfl))
  | ((with_reducible refine' k_apT ?ha ?hb ?hc ?_); (case ha => walk_at "kn"); (case hb => omega); (case hc => first | with_reducible assumption | (with_reducible exact TL.mk2 (by assumption)) | (with_reducible exact TL.mk (by assumption))); (refine' fun _ _ _ _ => ?_))
  | ((with_reducible refine' k_exT ?ha ?hb ?hc ?_); (case ha => walk_at "kn"); (case hb => walk_at "kn"); (case hc => omega); (refine' fun _ _ _ _ => ?_))
  | ((with_reducible refine' k_bm  ?_))
  | ((with_reducible refine' k_bmL ?ha ?_); (case ha => walk_at "kn"))
  | ((with_reducible refine' k_tupLT ?ha ?_); (case ha => walk_at "kn"); (refine' fun _ _ _ _ _ _ => ?_))
  | ((with_reducible refine' u_mk_Case ?ha ?hb ?_); (case ha => walk_at "kt"); (case hb => walk_at "kt"); (refine' fun _ _ _ _ => ?_))
  | ((with_reducible refine' k_bmL1 ?ha ?_); (case ha => walk_at "kn"))
  | ((with_reducible refine' k_for  ?_))
  | ((with_reducible refine' u_all_cases ?ha ?_); (case ha => walk_at "kn"); (refine' fun _ _ _ _ _ _ => ?_))
  | ((with_reducible refine' u_need_case ?ha ?hb ?hc ?_); (case ha => walk_at "kn"); (case hb => walk_at "kn"); (case hc => assumption); (refine' fun _ _ => ?_))
  | ((with_reducible refine' u_tests_in ?ha ?hb ?hc ?_); (case ha => walk_at "kn"); (case hb => walk_at "kn"); (case hc => assumption); (refine' fun _ _ _ _ _ _ => ?_))
  | ((with_reducible refine' k_callI0  ?_))
  | ((with_reducible refine' k_callI1  ?_))
  | ((with_reducible refine' k_gfld  ?_))
  | ((with_reducible refine' u_inner_stretch ?ha ?_); (case ha => walk_at "kn"); (refine' fun _ _ _ _ => ?_))
  | ((with_reducible refine' u_turned_stretch ?ha ?hb ?hc ?_); (case ha => walk_at "kn"); (case hb => walk_at "kn"); (case hc => assumption); (refine' fun _ _ _ _ => ?_))
  | ((with_reducible refine' u_once_stretch ?ha ?hb ?hc ?_); (case ha => walk_at "kn"); (case hb => walk_at "kn"); (case hc => walk_at "kn"); (refine' fun _ _ _ _ => ?_))
  | ((with_reducible refine' u_near_stretch ?ha ?hb ?_); (case ha => walk_at "kn"); (case hb => walk_at "kn"); (refine' fun _ _ _ _ => ?_))
  | ((with_reducible refine' u_near_for ?ha ?hb ?_); (case ha => walk_at "kn"); (case hb => walk_at "kn"); (refine' fun _ _ => ?_))
  | ((with_reducible refine' k_isN_oV  ?_))
  | ((with_reducible refine' k_notN_oV  ?_))
  | ((with_reducible refine' u_stretch_of ?ha ?hb ?hc ?_); (case ha => walk_at "kn"); (case hb => walk_at "kn"); (case hc => assumption); (refine' fun _ _ _ _ => ?_))
  | ((with_reducible refine' u_can_break ?ha ?hb ?hc ?_); (case ha => walk_at "kn"); (case hb => walk_at "kn"); (case hc => assumption); (refine' fun _ _ => ?_))
  | ((with_reducible refine' u_numbers_for ?ha ?hb ?hc ?hd ?_); (case ha => walk_at "kn"); (case hb => walk_at "kn"); (case hc => assumption); (case hd => assumption); (refine' fun _ _ _ _ _ _ => ?_))
  | ((with_reducible refine' k_lrg  ?_))
  | ((with_reducible refine' k_lrg2 ?ha ?_); (case ha => assumption); (refine' fun _ _ _ _ => ?_))
  | ((with_reducible refine' k_inRg ?ha ?_); (case ha => walk_at "kn"))
  | ((with_reducible refine' u_heavy_weights ?ha ?hb ?_); (case ha => walk_at "kn"); (case hb => constructor <;> omega); (refine' fun _ _ _ _ => ?_))
  | ((with_reducible refine' u_mk_Wrong ?ha ?hb ?hc ?_); (case ha => walk_at "kn"); (case hb => walk_at "kn"); (case hc => walk_at "kn"); (refine' fun _ _ _ _ => ?_))
  | ((with_reducible refine' u_mk_Pair ?ha ?_); (case ha => walk_at "kn"); (refine' fun _ _ _ _ => ?_))
  | ((with_reducible refine' u_wrong_at ?ha ?_); (case ha => walk_at "kn"); (refine' fun _ _ _ _ => ?_))
  | ((with_reducible refine' u_breaks ?ha ?hb ?_); (case ha => walk_at "kn"); (case hb => assumption); (refine' fun _ _ _ _ => ?_))
  | ((with_reducible refine' u_need_numbers ?ha ?hb ?_); (case ha => walk_at "kn"); (case hb => assumption); (refine' fun _ _ => ?_))
  | ((with_reducible refine' k_stat  ?_))
  | ((with_reducible refine' k_stat2 ?ha ?_); (case ha => walk_at "kn")))
local macro_rules | `(tactic| walk_at "go") => `(tactic| repeat (walk_at "st"))
local macro_rules | `(tactic| walk_at "run") => `(tactic| (dsimp only [cxK]; walk_at "go"))

section
variable {P : Program} {w : World} {K : PySem.W.Frag} {mg : Str → Option Value} {base : Heap}
open NdefX in
theorem cxK2 {CX : CXT} {P : Program} {w : World} {K : PySem.W.Frag} {mg : Str → Option Value} {base : Heap} {N : List Str} {F : NF} {f : Addr} {A : Around} {outer : List Env} {s : Shared} {H : Hp} {E : XK} : (ncx CX P w K mg base N F f A outer s H E).K = K := rfl
section
variable {x qual : Str} {params : Arguments} {body : List Stmt} {scope : Scope} {dvs : List V} {kws : List (Str × V)} {f cc cda : Addr} {fd : FuncData} {ps : List Str}
/-- all positional values are given -/
theorem FunS.binds (F : FunS K x qual params body scope cc cda dvs kws f fd) (hd : dvs ≠ [])
    (h : ∀ (T : Addr) (kV doc pm : Value) (an : Option Addr) (ct : Value) (us its : List Value), us.length = ps.length → its.length = dvs.length →
      ∃ k, bindArgs (PySem.W.fnX x qual params body scope [("__class__", cc)] (.ref T) kV doc pm an (.ref cda) ct) ⟨us, []⟩ = seqItems? (.ref T) >>= k ∧ k (some its.toArray) = pure (ps.zip us)) : Binds K fd ps [] := by
  obtain ⟨oc, od, dV, kV, doc, pm, an, ct, osl, rfl, lk, hcd, hD, hK⟩ := F.ex
  rcases hD with ⟨e, _⟩ | ⟨_, T, o, its, m, rfl, lT, oT, rT⟩
  · exact absurd e hd
  · intro s us X hlen
    have l1 : its.length = dvs.length := rT.length.symm
    have l2 : us.length = ps.length := by rw [← hlen, List.append_nil]
    obtain ⟨k, e1, e2⟩ := h T kV doc pm an ct us its l2 l1
    refine BindsTo.of_looks fun M => ?_
    rw [e1, List.append_nil]
    exact looks_items X lT oT (.of_pure e2)
/-- n positional ones, all others by keyword -/
theorem FunS.kbinds (F : FunS K x qual params body scope cc cda dvs kws f fd) (n : Nat) (ks : List Str) (hd : dvs ≠ [])
    (h : ∀ (T : Addr) (kV doc pm : Value) (an : Option Addr) (ct : Value) (us its ws : List Value), us.length = n → its.length = dvs.length → ws.length = ks.length →
      ∃ k, bindArgs (PySem.W.fnX x qual params body scope [("__class__", cc)] (.ref T) kV doc pm an (.ref cda) ct) ⟨us, ks.zip ws⟩ = seqItems? (.ref T) >>= k ∧ k (some its.toArray) = pure (ps.zip (us ++ ws))) : KBn K fd ps n ks (fun us ws => us ++ ws) (fun vs zs => vs ++ zs) := by
  obtain ⟨oc, od, dV, kV, doc, pm, an, ct, osl, rfl, lk, hcd, hD, hK⟩ := F.ex
  rcases hD with ⟨e, _⟩ | ⟨_, T, o, its, m, rfl, lT, oT, rT⟩
  · exact absurd e hd
  · refine ⟨fun s us ws X l1 l2 => ?_, fun r1 r2 => r1.append r2⟩
    obtain ⟨k, e1, e2⟩ := h T kV doc pm an ct us its ws l1 rT.length.symm l2
    refine BindsTo.of_looks fun M => ?_
    rw [e1]
    exact looks_items X lT oT (.of_pure e2)
end
/-- the rule at hand, told of its fields -/
theorem rule_try (T : TX K mg) {x dx tp : Addr} {R : Rl} {H : Hp} (hT : R.turn = none) (ok : R.Ok) (hx : H x = some (.ins (rC K R) dx (putF "plus" (.int R.k) (putF "times" (.ref tp) [])))) (hS : SqT K H tp [.int R.p, .int R.q]) : RuleI K H x R :=
  ⟨ok, ⟨_, _, hx⟩, ⟨_, _, hx, rfl⟩, ⟨_, _, hx, rfl⟩, ⟨⟨tp, fld_of hx (T.c_R R) (T.na_R_times R) rfl, hS⟩, fld_of hx (T.c_R R) (T.na_R_plus R) rfl⟩, fun t s r e => by rw [hT] at e; cases e⟩
def sp_TryRule_init (K : PySem.W.Frag) : Sp := SJ (He.ga K "TryRule") (fun i : Addr × Rl => [.ref i.1, .int i.2.k]) (fun i H => i.2.turn = none ∧ i.2.Ok ∧ SqT K H i.1 [.int i.2.p, .int i.2.q]) fun i x H' => RuleI K H' x i.2
theorem k_sup {C : Addr} {sp : Sp} {E : XK} {t : TA} {σ : L2.St} {H : Hp} {Q : VK} {a dx : Addr} {fs : List (Str × V)} (h0 : σ[0]? = some (some (V.ref a))) (ho : H a = some (.ins C dx fs)) (q : t σ H fun vs H1 => sp (.ref a :: vs) H1 Q E) : tSup C sp E t σ H Q := ⟨a, dx, fs, h0, ho, q⟩
open NdefX in
theorem ok_TryRule_init (T : TX K mg) (T2 : TR P K) : Ok P w K mg base 10 (He.ma K (He.ga K "TryRule") "__init__") ["self", "times", "plus"] (sp_TryRule_init K) := by
  obtain ⟨fd, cc, cda, F, S⟩ := T2.s_TryRule
  obtain ⟨_, G, bG, kG⟩ := ok_WeightRule_init (P := P) (w := w) (base := base) T T2
  refine ⟨fd, fnS_of (N := ["self", "times", "plus", "__class__"]) F ⟨rfl, rfl, rfl, by decide +kernel, rfl, by decide +kernel, by decide +kernel, by decide +kernel, by decide +kernel⟩ (SJ.len (fun _ => rfl)) (fun A outer s H vs Q E hr h => ?_), F.binds (by simp) (fun _ _ _ _ _ _ us its h1 h2 => match us, its, h1, h2 with | [_, _, _], [_], _, _ => ⟨_, rfl, rfl⟩), F.kp⟩
  obtain ⟨⟨tp, R⟩, x, dx, rfl, hx, ⟨hT, ok, hS⟩, q⟩ := h
  dsimp only at hx hT ok hS q
  have eC : rC K R = He.ga K "TryRule" := by simp [rC, hT]
  have GR : FnR P w K mg base CX0 9 (He.ma K (He.ga K "WeightRule") "__init__") (sp_WeightRule_init K) := (G.raw bG .nil).imp fun vs H Q E h => by
    rw [List.append_nil]
    exact h
  refine ⟨_, qs_super S rfl rfl rfl rfl rfl rfl rfl T.n_super GR (hr.mono (by decide)) (pa_cons (pv 1) (pa_cons (pv 2) pa_nil)) (QS.of pss_nil), ?_⟩
  walk_at "go"
  refine k_sup rfl hx ?_
  walk_at "go"
  refine ⟨R, x, dx, tp, rfl, by rw [eC]; exact hx, ok, hS, fun H' m hx' => ?_⟩
  exact q _ m (rule_try T hT ok hx' (m.t hx hS))

end
end M
namespace M
open PySem PySem.Spec PyProof.Rows L2 Evl
local macro_rules | `(tactic| walk_at "ar") => `(tactic| first | exact rfl | omega | (simp only [List.length_map, List.length_cons, List.length_nil] at *; omega) | decide)
local macro_rules | `(tactic| walk_at "ex") => `(tactic| first | with_reducible assumption | exact Ex.refl _ | (refine' Ex.trans ?a ?b; (case b => with_reducible assumption); (case a => walk_at "ex")) | (refine' Ex.mu2 ?a ?n ?b; (case b => with_reducible assumption); (case n => with_reducible assumption); (case a => walk_at "ex")))
local macro_rules | `(tactic| walk_at "exn") => `(tactic| first | with_reducible assumption | exact ExN.refl _ | (refine' ExN.trans ?a (ExN.of ?b); (case b => with_reducible assumption); (case a => walk_at "exn")) | (refine' ExN.trans ?a ?b; (case b => with_reducible assumption); (case a => walk_at "exn")))
local macro_rules | `(tactic| walk_at "ln") => `(tactic| first | exact rfl | omega | (simp only [scaleF, addF, List.length_map, List.length_zip, List.length_cons, List.length_nil] <;> omega))
local macro_rules | `(tactic| walk_at "kn") => `(tactic| first
  | with_reducible assumption
  | ((with_reducible refine' Fld.mono ?e ?m); (case e => with_reducible assumption); (case m => walk_at "kn"))
  | ((with_reducible refine' Ins.mono ?e ?m); (case e => with_reducible assumption); (case m => walk_at "kn"))
  | ((with_reducible refine' SqT.of ?m); (case m => walk_at "kn"))
  | ((with_reducible refine' SqL.of ?m); (case m => walk_at "kn"))
  | with_reducible exact kn_DEEDS (by assumption)
  | with_reducible exact kn_INNER (by assumption)
  | with_reducible exact kn_ONCE (by assumption)
  | with_reducible exact kn_TWICE (by assumption)
  | ((with_reducible refine' RB.mono ?e ?m); (case e => with_reducible assumption); (case m => walk_at "kn"))
  | ((with_reducible refine' RuleI.mono ?e ?m); (case e => with_reducible assumption); (case m => walk_at "kn"))
  | ((with_reducible refine' TestAt.mono ?e ?m); (case e => with_reducible assumption); (case m => walk_at "kn"))
  | ((with_reducible refine' TO_mono ?e ?m); (case e => with_reducible assumption); (case m => walk_at "kn"))
  | ((with_reducible refine' CaseAt.mono ?e ?m); (case e => with_reducible assumption); (case m => walk_at "kn"))
  | ((with_reducible refine' LT.fair ?e ?m); (case e => with_reducible assumption); (case m => with_reducible assumption))
  | ((with_reducible refine' LT.turn ?e ?m); (case e => with_reducible assumption); (case m => with_reducible assumption))
  | ((with_reducible refine' FormsB.mono ?e ?m); (case e => with_reducible assumption); (case m => walk_at "kn"))
  | ((with_reducible refine' tl_mono ?e ?m); (case e => with_reducible assumption); (case m => walk_at "kn"))
  | ((with_reducible refine' ExN.t ?e ?m); (case e => with_reducible assumption); (case m => walk_at "kn"))
  | ((with_reducible refine' ExN.fld ?e ?m); (case e => with_reducible assumption); (case m => walk_at "kn"))
  | ((with_reducible refine' ExN.ins ?e ?m); (case e => with_reducible assumption); (case m => walk_at "kn"))
  | ((with_reducible refine' RuleI.monoN ?e ?m); (case e => with_reducible assumption); (case m => walk_at "kn"))
  | ((with_reducible refine' TestAt.monoN ?e ?m); (case e => with_reducible assumption); (case m => walk_at "kn"))
  | ((with_reducible refine' CaseAt.monoN ?e ?m); (case e => with_reducible assumption); (case m => walk_at "kn"))
  | ((with_reducible refine' FormsB.monoN ?e ?m); (case e => with_reducible assumption); (case m => walk_at "kn"))
  | ((with_reducible refine' tl_monoN ?e ?m); (case e => with_reducible assumption); (case m => walk_at "kn"))
  | ((with_reducible refine' LT.mono ?e ?m); (case e => with_reducible assumption); (case m => walk_at "kn"))
  | ((with_reducible refine' PairI.mono ?e ?m); (case e => with_reducible assumption); (case m => walk_at "kn"))
  | ((with_reducible refine' WrongAt.mono ?e ?m); (case e => with_reducible assumption); (case m => walk_at "kn"))
  | ((with_reducible refine' ex_t ?e ?m); (case e => with_reducible assumption); (case m => walk_at "kn"))
  | ((with_reducible refine' ex_l ?e ?m); (case e => with_reducible assumption); (case m => walk_at "kn"))
  | ((with_reducible refine' Ex.at ?e ?m); (case e => with_reducible assumption); (case m => walk_at "kn"))
  | ((with_reducible refine' Mu.t ?e ?n ?m); (case e => with_reducible assumption); (case n => with_reducible assumption); (case m => walk_at "kn"))
  | ((with_reducible refine' Mu.lst ?e ?n ?m); (case e => with_reducible assumption); (case n => with_reducible assumption); (case m => walk_at "kn"))
  | ((with_reducible refine' Mu.fld ?e ?n ?m); (case e => with_reducible assumption); (case n => with_reducible assumption); (case m => walk_at "kn")))
local macro_rules | `(tactic| walk_at "st") => `(tactic| first
  | with_reducible refine k_seq ?_
  | with_reducible refine k_asg ?_
  | with_reducible refine k_ret ?_
  | with_reducible refine k_drop ?_
  | with_reducible refine k_ifS ?_
  | with_reducible refine k_name ?_
  | with_reducible refine k_next ?_
  | ((with_reducible refine' k_var ?hv ?_); case hv => exact rfl)
  | with_reducible refine k_c ?_
  | with_reducible refine k_fld ?_
  | ((with_reducible refine' k_fld2 ?hv ?_); case hv => walk_at "kn")
  | with_reducible refine k_op ?_
  | with_reducible refine k_un ?_
  | with_reducible refine k_add ?_
  | with_reducible refine k_sub ?_
  | with_reducible refine k_neg ?_
  | ((with_reducible refine' k_mul ?hv ?_); case hv => first | (left; constructor <;> omega) | (right; constructor <;> omega))
  | ((with_reducible refine' k_fdiv ?hv ?_); case hv => constructor <;> omega)
  | ((with_reducible refine' k_mod ?hv ?_); case hv => omega)
  | with_reducible refine k_lt ?_
  | with_reducible refine k_le ?_
  | with_reducible refine k_gt ?_
  | with_reducible refine k_ge ?_
  | with_reducible refine k_eqI ?_
  | with_reducible refine k_eqT ?_
  | with_reducible refine k_neI ?_
  | with_reducible refine k_isN_int ?_
  | with_reducible refine k_isN_ref ?_
  | with_reducible refine k_isN_non ?_
  | with_reducible refine k_notN_int ?_
  | with_reducible refine k_notN_ref ?_
  | with_reducible refine k_notN_non ?_
  | with_reducible refine k_test ?_
  | with_reducible refine k_B ?_
  | with_reducible refine k_bx ?_
  | with_reducible refine k_not ?_
  | with_reducible refine k_notV ?_
  | with_reducible refine k_and ?_
  | with_reducible refine k_or ?_
  | with_reducible refine k_andV ?_
  | with_reducible refine k_orV ?_
  | with_reducible refine k_if ?_
  | with_reducible refine k_chain ?_
  | with_reducible refine iteT ?_
  | with_reducible refine iteF ?_
  | with_reducible refine k_nil ?_
  | with_reducible refine k_cons ?_
  | with_reducible refine k_tup ?_
  | with_reducible refine k_lst ?_
  | with_reducible refine k_call ?_
  | with_reducible refine k_meth ?_
  | ((with_reducible refine' k_meth2 ?hv ?_); case hv => walk_at "kn")
  | with_reducible refine k_make ?_
  | with_reducible refine k_cb ?_
  | with_reducible refine k_min2 ?_
  | with_reducible refine k_max2 ?_
  | with_reducible refine k_int1 ?_
  | with_reducible refine k_int1b ?_
  | with_reducible refine k_abs1 ?_
  | ((with_reducible refine' k_gtup ?hv ?hw ?_); (case hv => walk_at "kn"); (case hw => rfl))
  | with_reducible refine k_gcons ?_
  | with_reducible refine k_gnil ?_
  | with_reducible refine k_isi_ii ?_
  | with_reducible refine k_isi_ib ?_
  | with_reducible refine k_isi_ss ?_
  | ((with_reducible refine' k_isi_tt ?hv ?_); case hv => walk_at "kn")
  | with_reducible refine iteNT ?_
  | with_reducible refine iteNF ?_
  | with_reducible refine k_cval ?_
  | ((with_reducible refine' k_cval2 ?hv ?_); case hv => exact kn_most (by assumption))
  | with_reducible refine k_lc ?_
  | with_reducible refine k_iT ?_
  | ((with_reducible refine' k_iT2 ?hv ?_); case hv => walk_at "kn")
  | with_reducible refine k_iL ?_
  | ((with_reducible refine' k_iL2 ?hv ?_); case hv => walk_at "kn")
  | with_reducible refine k_i1 ?_
  | ((with_reducible refine' k_i1a ?hv ?_); case hv => constructor <;> omega)
  | with_reducible refine k_i2 ?_
  | ((with_reducible refine' k_i2a ?hv ?_); case hv => refine ⟨?_, ?_, ?_, ?_⟩ <;> omega)
  | with_reducible refine k_iZ ?_
  | ((with_reducible refine' k_iZa ?hv ?hw ?_); (case hv => walk_at "kn"); (case hw => walk_at "kn"))
  | with_reducible refine k_iN ?_
  | ((with_reducible refine' k_lenT ?hv ?_); case hv => walk_at "kn")
  | ((with_reducible refine' k_lenL ?hv ?_); case hv => walk_at "kn")
  | ((with_reducible refine' k_ixT ?hv ?hw ?_); (case hv => walk_at "kn"); (case hw => rfl))
  | ((with_reducible refine' k_tupL ?hv ?_); (case hv => walk_at "kn"); (refine' fun _ _ _ _ _ => ?_))
  | ((with_reducible refine' k_tupT ?hv ?_); (case hv => walk_at "kn"))
  | ((with_reducible refine' k_new ?hv ?_); (case hv => (simp only [List.length_cons, List.length_nil]; exact sze _ (by omega))); (refine' fun _ _ _ _ _ => ?_))
  | ((with_reducible refine' k_isiW ?hT ?hv ?_); (case hT => assumption); (case hv => walk_at "kn"))
  | ((with_reducible refine' k_isiT ?hT ?hv ?_); (case hT => assumption); (case hv => walk_at "kn"))
  | ((with_reducible refine' k_isiC ?hT ?hv ?_); (case hT => assumption); (case hv => walk_at "kn"))
  | ((with_reducible refine' k_isiLT ?hv ?hw ?_); (case hv => walk_at "kn"); (case hw => walk_at "kn"))
  | ((with_reducible refine' k_isN_TO ?hv ?_); (case hv => walk_at "kn"))
  | ((with_reducible refine' k_notN_TO ?hv ?_); (case hv => walk_at "kn"))
  | ((with_reducible refine' k_notInDeeds ?hv ?_); (case hv => walk_at "kn"))
  | with_reducible refine k_eqPut ?_
  | ((refine' k_eqB .inn ?hv ?hw ?hx ?_); (case hv => walk_at "kn"); (case hw => walk_at "kn"); (case hx => rfl))
  | ((refine' k_eqB .lf ?hv ?hw ?hx ?_); (case hv => walk_at "kn"); (case hw => walk_at "kn"); (case hx => rfl))
  | ((refine' k_eqB .ls ?hv ?hw ?hx ?_); (case hv => walk_at "kn"); (case hw => walk_at "kn"); (case hx => rfl))
  | ((refine' k_eqB .ff ?hv ?hw ?hx ?_); (case hv => walk_at "kn"); (case hw => walk_at "kn"); (case hx => rfl))
  | ((refine' k_eqB .fs ?hv ?hw ?hx ?_); (case hv => walk_at "kn"); (case hw => walk_at "kn"); (case hx => rfl))
  | ((refine' k_eqB .tf ?hv ?hw ?hx ?_); (case hv => walk_at "kn"); (case hw => walk_at "kn"); (case hx => rfl))
  | ((with_reducible refine' k_yes ?hv ?_); (case hv => walk_at "ar"))
  | ((with_reducible refine' k_no ?hv ?_); (case hv => walk_at "ar"))
  | ((with_reducible refine' k_nyes ?hv ?_); (case hv => walk_at "ar"))
  | ((with_reducible refine' k_nno ?hv ?_); (case hv => walk_at "ar"))
  | with_reducible refine k_sfld ?_
  | ((with_reducible refine' k_ixL ?hv ?hw ?_); (case hv => walk_at "kn"); (case hw => rfl))
  | ((with_reducible refine' k_sumTu _ ?hv ?_); (case hv => walk_at "kn"))
  | ((with_reducible refine' u_is_integer  ?_); (refine' fun _ _ => ?_))
  | ((with_reducible refine' u_over ?ha ?_); (case ha => constructor <;> omega); (refine' fun _ _ => ?_))
  | ((with_reducible refine' u_is_within ?ha ?_); (case ha => constructor <;> omega); (refine' fun _ _ => ?_))
  | ((with_reducible refine' u_need_plus ?ha ?_); (case ha => constructor <;> omega); (refine' fun _ _ => ?_))
  | ((with_reducible refine' u_need_weight ?ha ?_); (case ha => constructor <;> omega); (refine' fun _ _ => ?_))
  | ((with_reducible refine' u_is_times ?ha ?hb ?_); (case ha => walk_at "kn"); (case hb => refine ⟨⟨?_, ?_⟩, ?_, ?_⟩ <;> omega); (refine' fun _ _ => ?_))
  | ((with_reducible refine' u_beside ?ha ?_); (case ha => walk_at "kn"); (refine' fun _ _ => ?_))
  | ((with_reducible refine' u_greatest ?ha ?hb ?_); (case ha => walk_at "kn"); (case hb => constructor <;> omega); (refine' fun _ _ => ?_))
  | ((with_reducible refine' u_need_weight_rule ?ha ?_); (case ha => walk_at "kn"); (refine' fun _ _ => ?_))
  | ((with_reducible refine' u_need_deed  ?_); (refine' fun _ _ => ?_))
  | ((with_reducible refine' u_has_three ?ha ?_); (case ha => walk_at "kn"); (refine' fun _ _ => ?_))
  | ((with_reducible refine' u_scaled ?ha ?hb ?_); (case ha => walk_at "kn"); (case hb => refine ⟨⟨?_, ?_⟩, ?_⟩ <;> (walk_at "ln")); (refine' fun _ _ _ _ => ?_))
  | ((with_reducible refine' u_added ?ha ?hb ?hc ?_); (case ha => walk_at "kn"); (case hb => walk_at "kn"); (case hc => constructor <;> (walk_at "ln")); (refine' fun _ _ _ _ => ?_))
  | ((with_reducible refine' u_amount ?ha ?hb ?hc ?_); (case ha => walk_at "kn"); (case hb => walk_at "kn"); (case hc => assumption); (refine' fun _ _ => ?_))
  | ((with_reducible refine' u_mk_Test ?ha ?hb ?_); (case ha => walk_at "kn"); (case hb => assumption); (refine' fun _ _ _ _ => ?_))
  | ((with_reducible refine' k_eq1st  ?_))
  | ((with_reducible refine' u_heavy_form ?ha ?_); (case ha => walk_at "kn"); (refine' fun _ _ _ _ => ?_))
  | ((with_reducible refine' u_sides ?ha ?hb ?_); (case ha => walk_at "kn"); (case hb => assumption); (refine' fun _ _ _ _ _ _ _ _ => ?_))
  | ((with_reducible refine' u_fair_tests ?ha ?hb ?hc ?hd ?_); (case ha => walk_at "kn"); (case hb => walk_at "kn"); (case hc => walk_at "kn"); (case hd => assumption); (refine' fun _ _ _ _ _ _ => ?_))
  | ((with_reducible refine' u_unfair_test ?ha ?hb ?hc ?hd ?_); (case ha => walk_at "kn"); (case hb => walk_at "kn"); (case hc => walk_at "kn"); (case hd => assumption); (refine' fun _ _ _ _ => ?_))
  | ((with_reducible refine' k_eq1st  ?_))
  | ((with_reducible refine' u_turn_tests ?ha ?hb ?_); (case ha => walk_at "kn"); (case hb => walk_at "kn"); (refine' fun _ _ _ _ _ _ => ?_))
  | ((with_reducible refine' u_break_test ?ha ?hb ?hc ?hd ?_); (case ha => walk_at "kn"); (case hb => walk_at "kn"); (case hc => walk_at "kn"); (case hd => assumption); (refine' fun _ _ _ _ => ?_))
  | ((with_reducible refine' k_ifv ?ha ?hb ?_); (case ha => exact rfl); (case hb => exact rfl))
  | ((with_reducible refine' k_apT ?ha ?hb ?hc ?_); (case ha => walk_at "kn"); (case hb => omega); (case hc => first | with_reducible assumption | (with_reducible exact TL.mk2 (by assumption)) | (with_reducible exact TL.mk (by assumption))); (refine' fun _ _ _ _ => ?_))
  | ((with_reducible refine' k_exT ?ha ?hb ?hc ?_); (case ha => walk_at "kn"); (case hb => walk_at "kn"); (case hc => omega); (refine' fun _ _ _ _ => ?_))
  | ((with_reducible refine' k_bm  ?_))
  | ((with_reducible refine' k_bmL ?ha ?_); (case ha => walk_at "kn"))
  | ((with_reducible refine' k_tupLT ?ha ?_); (case ha => walk_at "kn"); (refine' fun _ _ _ _ _ _ => ?_))
  | ((with_reducible refine' u_mk_Case ?ha ?hb ?_); (case ha => walk_at "kt"); (case hb => walk_at "kt"); (refine' fun _ _ _ _ => ?_))
  | ((with_reducible refine' k_bmL1 ?ha ?_); (case ha => walk_at "kn"))
  | ((with_reducible refine' k_for  ?_))
  | ((with_reducible refine' u_all_cases ?ha ?_); (case ha => walk_at "kn"); (refine' fun _ _ _ _ _ _ => ?_))
  | ((with_reducible refine' u_need_case ?ha ?hb ?hc ?_); (case ha => walk_at "kn"); (case hb => walk_at "kn"); (case hc => assumption); (refine' fun _ _ => ?_))
  | ((with_reducible refine' u_tests_in ?ha ?hb ?hc ?_); (case ha => walk_at "kn"); (case hb => walk_at "kn"); (case hc => assumption); (refine' fun _ _ _ _ _ _ => ?_))
  | ((with_reducible refine' k_callI0  ?_))
  | ((with_reducible refine' k_callI1  ?_))
  | ((with_reducible refine' k_gfld  ?_))
  | ((with_reducible refine' u_inner_stretch ?ha ?_); (case ha => walk_at "kn"); (refine' fun _ _ _ _ => ?_))
  | ((with_reducible refine' u_turned_stretch ?ha ?hb ?hc ?_); (case ha => walk_at "kn"); (case hb => walk_at "kn"); (case hc => assumption); (refine' fun _ _ _ _ => ?_))
  | ((with_reducible refine' u_once_stretch ?ha ?hb ?hc ?_); (case ha => walk_at "kn"); (case hb => walk_at "kn"); (case hc => walk_at "kn"); (refine' fun _ _ _ _ => ?_))
  | ((with_reducible refine' u_near_stretch ?ha ?hb ?_); (case ha => walk_at "kn"); (case hb => walk_at "kn"); (refine' fun _ _ _ _ => ?_))
  | ((with_reducible refine' u_near_for ?ha ?hb ?_); (case ha => walk_at "kn"); (case hb => walk_at "kn"); (refine' fun _ _ => ?_))
  | ((with_reducible refine' k_isN_oV  ?_))
  | ((with_reducible refine' k_notN_oV  ?_))
  | ((with_reducible refine' u_stretch_of ?ha ?hb ?hc ?_); (case ha => walk_at "kn"); (case hb => walk_at "kn"); (case hc => assumption); (refine' fun _ _ _ _ => ?_))
  | ((with_reducible refine' u_can_break ?ha ?hb ?hc ?_); (case ha => walk_at "kn"); (case hb => walk_at "kn"); (case hc => assumption); (refine' fun _ _ => ?_))
  | ((with_reducible refine' u_numbers_for ?ha ?hb ?hc ?hd ?_); (case ha => walk_at "kn"); (case hb => walk_at "kn"); (case hc => assumption); (case hd => assumption); (refine' fun _ _ _ _ _ _ => ?_))
  | ((with_reducible refine' k_lrg  ?_))
  | ((with_reducible refine' k_lrg2 ?ha ?_); (case ha => assumption); (refine' fun _ _ _ _ => ?_))
  | ((with_reducible refine' k_inRg ?ha ?_); (case ha => walk_at "kn"))
  | ((with_reducible refine' u_heavy_weights ?ha ?hb ?_); (case ha => walk_at "kn"); (case hb => constructor <;> omega); (refine' fun _ _ _ _ => ?_))
  | ((with_reducible refine' u_mk_Wrong ?ha ?hb ?hc ?_); (case ha => walk_at "kn"); (case hb => walk_at "kn"); (case hc => walk_at "kn"); (refine' fun _ _ _ _ => ?_))
  | ((with_reducible refine' u_mk_Pair ?ha ?_); (case ha => walk_at "kn"); (refine' fun _ _ _ _ => ?_))
  | ((with_reducible refine' u_wrong_at ?ha ?_); (case ha => walk_at "kn"); (refine' fun _ _ _ _ => ?_))
  | ((with_reducible refine' u_breaks ?ha ?hb ?_); (case ha => walk_at "kn"); (case hb => assumption); (refine' fun _ _ _ _ => ?_))
  | ((with_reducible refine' u_need_numbers ?ha ?hb ?_); (case ha => walk_at "kn"); (case hb => assumption); (refine' fun _ _ => ?_))
  | ((with_reducible refine' k_stat  ?_))
  | ((with_reducible refine' k_stat2 ?ha ?_); (case ha => walk_at "kn")))
local macro_rules | `(tactic| walk_at "go") => `(tactic| repeat (walk_at "st"))
local macro_rules | `(tactic| walk_at "run") => `(tactic| (dsimp only [cxK]; walk_at "go"))

section
variable {P : Program} {w : World} {K : PySem.W.Frag} {mg : Str → Option Value} {base : Heap}
def sp_TurnRule_init (K : PySem.W.Frag) : Sp := SJ (He.ga K "TurnRule") (fun i : Addr × Addr × Rl × Int × Int × Int => [.ref i.1, .int i.2.2.1.k, .ref i.2.1, .int i.2.2.2.2.2]) (fun i H => i.2.2.1.turn = some (i.2.2.2.1, i.2.2.2.2.1, i.2.2.2.2.2) ∧ i.2.2.1.Ok ∧ SqT K H i.1 [.int i.2.2.1.p, .int i.2.2.1.q] ∧ SqT K H i.2.1 [.int i.2.2.2.1, .int i.2.2.2.2.1]) fun i x H' => RuleI K H' x i.2.2.1
abbrev psTurn : List Str := ["self", "times", "plus", "turn", "turn_plus"]
open NdefX in
theorem ok_TurnRule_init (T : TX K mg) (T2 : TR P K) : ∃ fd, FnOk P w K mg base CX0 10 (He.ma K (He.ga K "TurnRule") "__init__") fd psTurn (sp_TurnRule_init K) ∧ KBn K fd psTurn 3 ["turn", "turn_plus"] (fun us ws => us ++ ws) (fun vs zs => vs ++ zs) := by
  obtain ⟨fd, cc, cda, F, S⟩ := T2.s_TurnRule
  obtain ⟨_, G, bG, kG⟩ := ok_WeightRule_init (P := P) (w := w) (base := base) T T2
  obtain ⟨_, G_WeightRule_need_numbers, b_WeightRule_need_numbers, _⟩ := ok_WeightRule_need_numbers (P := P) (w := w) (base := base) T
  obtain ⟨_, G_is_times, b_is_times, k_is_times⟩ := ok_is_times (P := P) (w := w) (base := base) T
  obtain ⟨_, G_need_plus, b_need_plus, k_need_plus⟩ := ok_need_plus (P := P) (w := w) (base := base) T
  refine ⟨fd, fnS_of (N := ["self", "times", "plus", "turn", "turn_plus", "__class__"]) F ⟨rfl, rfl, rfl, by decide +kernel, rfl, by decide +kernel, by decide +kernel, by decide +kernel, by decide +kernel⟩ (SJ.len (fun _ => rfl)) (fun A outer s H vs Q E hr h => ?_), F.kbinds 3 ["turn", "turn_plus"] (by simp) (fun _ _ _ _ _ _ us its ws h1 h2 h3 => match us, its, ws, h1, h2, h3 with | [_, _, _], [_], [_, _], _, _, _ => ⟨_, rfl, rfl⟩)⟩
  obtain ⟨⟨tp, tt, R, t, z, r⟩, x, dx, rfl, hx, ⟨hT, ok, hS, hS2⟩, q⟩ := h
  dsimp only at hx hT ok hS hS2 q
  have eC : rC K R = He.ga K "TurnRule" := by simp [rC, hT]
  have GR : FnR P w K mg base CX0 9 (He.ma K (He.ga K "WeightRule") "__init__") (sp_WeightRule_init K) := (G.raw bG .nil).imp fun vs H Q E h => by
    rw [List.append_nil]
    exact h
  obtain ⟨g1, g2, g3, g4, g5, g6⟩ := ok.tn t z r hT
  have hi : Ins H x (rC K R) "need_numbers" := ⟨dx, [], by rw [eC]; exact hx, rfl⟩
  refine ⟨_, QS.cons (ps_expr (pe_stat (pv 0) (T2.nn_R R) G_WeightRule_need_numbers (hr.mono (by decide)) b_WeightRule_need_numbers pass0 (pa_cons (pv 1) (pa_cons (pv 2) pa_nil)))) (QS.cons (ps_if (pt_not (pt_val (pe_call G_is_times (hr.mono (by decide)) (by rfl) T.g_is_times k_is_times b_is_times .nil pass0 (pa_cons (pv 3) (pa_cons (pe_glob (v := .int 8) (by rfl) T.g_MOST_TURN.choose_spec ⟨_, rfl⟩) pa_nil))))) pss_never pss_nil) (QS.cons (ps_expr (pe_call G_need_plus (hr.mono (by decide)) (by rfl) T.g_need_plus k_need_plus b_need_plus .nil pass0 (pa_cons (pv 4) (pa_cons pe_str pa_nil)))) (qs_super S rfl rfl rfl rfl rfl rfl rfl T.n_super GR (hr.mono (by decide)) (pa_cons (pv 1) (pa_cons (pv 2) pa_nil)) (QS.of (pss_cons (ps_fld (pv 0) (pv 3) rfl) (pss_one (ps_fld (pv 0) (pv 4) rfl))))))), ?_⟩
  dsimp only [cxK2]
  walk_at "go"
  refine k_sup rfl (by walk_at "kn") ?_
  walk_at "go"
  refine ⟨R, x, dx, tp, rfl, by rw [eC]; walk_at "kn", ok, by walk_at "kn", fun H1 m1 hx1 => ?_⟩
  rw [eC] at hx1
  walk_at "go"
  refine' k_sf ?ha1 T.c_TurnRule T.na_TurnRule_turn ?hb1 ?hc1
  case ha1 => exact hx1
  case hb1 => exact (show 2 < 1000 by omega)
  refine' fun H2 m2 hx2 => ?_
  walk_at "go"
  refine' k_sf ?ha2 T.c_TurnRule T.na_TurnRule_turn_plus ?hb2 ?hc2
  case ha2 => exact hx2
  case hb2 => exact (show 3 < 1000 by omega)
  refine' fun H3 m3 hx3 => ?_
  rename_i Ha ea Hb eb Hc ec
  have m0 : Mu x H H3 := (Ex.mu ((ea.trans eb).trans ec)).trans (m1.trans (m2.trans m3))
  have hx3' := hx3
  rw [← eC] at hx3'
  refine q _ m0 ⟨ok, ⟨_, _, hx3'⟩, ⟨_, _, hx3', rfl⟩, ⟨_, _, hx3', rfl⟩, ⟨⟨tp, fld_of hx3' (T.c_R R) (T.na_R_times R) rfl, m0.t hx hS⟩, fld_of hx3' (T.c_R R) (T.na_R_plus R) rfl⟩, fun t' z' r' e => ?_⟩
  rw [hT] at e
  cases e
  exact ⟨⟨tt, fld_of hx3 T.c_TurnRule T.na_TurnRule_turn rfl, m0.t hx hS2⟩, fld_of hx3 T.c_TurnRule T.na_TurnRule_turn_plus rfl⟩

end
end M
namespace M
open PySem PySem.Spec PyProof.Rows L2 Evl
/-! ### the law's pen -/
structure Pen (H : Hp) (pen c : Addr) (n : Int) : Prop where
  ex : ∃ (ns : List Int) (at_ g : Int), H pen = some (.lst [.ref c, .int at_, .int g]) ∧ H c = some (.lst (ns.map V.int)) ∧ c ≠ pen ∧ (0 ≤ at_ ∧ at_ ≤ n) ∧ 0 ≤ g
theorem Pen.mono {H H' : Hp} {pen c : Addr} {n : Int} (e : Ex H H') (p : Pen H pen c n) : Pen H' pen c n := by
  obtain ⟨ns, at_, g, h1, h2, h3⟩ := p.ex
  exact ⟨ns, at_, g, e _ _ h1, e _ _ h2, h3⟩
theorem Pen.le {H : Hp} {pen c : Addr} {n m : Int} (h : n ≤ m) (p : Pen H pen c n) : Pen H pen c m := by
  obtain ⟨ns, at_, g, h1, h2, h3, h4, h5⟩ := p.ex
  exact ⟨ns, at_, g, h1, h2, h3, ⟨h4.1, by omega⟩, h5⟩
theorem Pen.ne {H : Hp} {pen c a : Addr} {n : Int} (p : Pen H pen c n) (h : H a = none) : a ≠ pen := fun z => by
  obtain ⟨ns, at_, g, h1, _⟩ := p.ex
  subst z
  rw [h1] at h
  cases h
theorem Pen.nc {H : Hp} {pen c a : Addr} {n : Int} (p : Pen H pen c n) (h : H a = none) : a ≠ c := fun z => by
  obtain ⟨ns, at_, g, h1, h2, _⟩ := p.ex
  subst z
  rw [h2] at h
  cases h
/-- what a draw leaves: all but lists; of the lists all but the pen -/
structure PX (pen : Addr) (H H' : Hp) : Prop where
  n : ExN H H'
  m : Mu pen H H'
theorem PX.refl (pen : Addr) (H : Hp) : PX pen H H := ⟨ExN.refl H, Mu.refl pen H⟩
theorem PX.of {pen : Addr} {H H' : Hp} (e : Ex H H') : PX pen H H' := ⟨.of e, Ex.mu e⟩
theorem PX.trans {pen : Addr} {H H1 H2 : Hp} (a : PX pen H H1) (b : PX pen H1 H2) : PX pen H H2 := ⟨a.n.trans b.n, a.m.trans b.m⟩
theorem PX.t {K : PySem.W.Frag} {pen a : Addr} {H H' : Hp} {xs : List V} (e : PX pen H H') (h : SqT K H a xs) : SqT K H' a xs := e.n.t h
theorem PX.rule {K : PySem.W.Frag} {pen a : Addr} {H H' : Hp} {R : Rl} (e : PX pen H H') (h : RuleI K H a R) : RuleI K H' a R := h.monoN e.n
theorem PX.upd {pen : Addr} {H : Hp} {l : List V} {o : HO} (h : H pen = some (.lst l)) : PX pen H (upd H pen o) := ⟨ExN.upd h, Mu.upd⟩
def PM {α : Type} (args : α → List V) (pen : α → Addr) (pre : α → Hp → Prop) (post : α → Hp → V → Hp → Prop) : Sp := fun vs H Q _ => ∃ a, vs = args a ∧ pre a H ∧ ∀ v H', PX (pen a) H H' → post a H v H' → Q v H'
theorem PM.len {α : Type} {args : α → List V} {pen : α → Addr} {pre : α → Hp → Prop} {post : α → Hp → V → Hp → Prop} {n : Nat} (hl : ∀ a, (args a).length = n) (vs : List V) (H : Hp) (Q : VK) (E : XK) (h : PM args pen pre post vs H Q E) : vs.length = n := by
  obtain ⟨a, rfl, _⟩ := h
  exact hl a
/-! ### readings -/
section
variable {K : PySem.W.Frag} {H : Hp} {σ : L2.St} {ta tb te to ti : TE} {tl th : L2.TO} {Q : VK} {v : V} {k : L2.St → Hp → Prop}
theorem k_slA {r : V → Option Int → Option Int → Hp → VK → Prop} (h : te σ H fun x H1 => tl σ H1 fun l H2 => th σ H2 fun u H3 => r x l u H3 Q) : tSl r te tl th σ H Q := h
theorem k_part {Q : Option Int → Hp → Prop} (h : te σ H fun x H1 => ∃ i, x = .int i ∧ Q (some i) H1) : tPart te σ H Q := h
theorem k_noPart {Q : Option Int → Hp → Prop} (q : Q none H) : tNoPart σ H Q := q
theorem k_pI {F : Int → Prop} {i : Int} (q : F i) : ∃ i', V.int i = .int i' ∧ F i' := ⟨i, rfl, q⟩
theorem k_gsub {t : TSet} (h : to σ H fun o H1 => ti σ H1 fun i H2 => t o i v H2 fun H3 => k σ H3) : gSub to ti t v σ H k := h
theorem k_setL {p : Addr} {xs : List V} {i : Int} {j : Nat} {F : Hp → Prop} (h : H p = some (.lst xs)) (hj : ixN xs.length i = some j) (q : ∀ H', PX p H H' → H' p = some (.lst (xs.set j v)) → F H') : rSetL (.ref p) (.int i) v H F :=
  ⟨p, xs, i, j, rfl, rfl, h, hj, q _ (PX.upd h) upd_same⟩
theorem k_lstL1 {p : Addr} {ys : List V} (h : H p = some (.lst ys)) (q : ∀ (l : Addr) (H' : Hp), H l = none → Ex H H' → H' l = some (.lst ys) → Q (.ref l) H') : rLstOf K [.ref p] H Q := k_lstL (SqL.of h) q
theorem k_slL {p : Addr} {xs : List V} {lo hi : Option Int} (h : SqL K H p xs) (q : ∀ (l : Addr) (H' : Hp), H l = none → Ex H H' → H' l = some (.lst (cutV xs lo hi)) → Q (.ref l) H') : rSlL K (.ref p) lo hi H Q :=
  ⟨p, xs, rfl, h, fun l hl => q l _ hl (Ex.new hl) upd_same⟩
theorem k_slT {p : Addr} {xs ys : List V} {lo hi : Option Int} (h : SqT K H p xs) (hy : cutV xs lo hi = ys) (hw : HT.sIx xs.length 0 lo = 0 ∧ HT.sIx xs.length xs.length hi = xs.length → xs = ys) (q : ∀ (l : Addr) (H' : Hp), Ex H H' → SqT K H' l ys → Q (.ref l) H') : rSlA K (.ref p) lo hi H Q :=
  ⟨p, xs, rfl, h, fun z => q p H (Ex.refl H) (hw z ▸ h), fun _ l hl => q l _ (Ex.new hl) (hy ▸ SqT.of upd_same)⟩
theorem k_catA {a b : Addr} {xs ys : List V} (h1 : SqT K H a xs) (h2 : SqT K H b ys) (hl : xs.length + ys.length < 1000) (hx : xs ≠ []) (hy : ys ≠ []) (q : ∀ (l : Addr) (H' : Hp), Ex H H' → SqT K H' l (xs ++ ys) → Q (.ref l) H') : rCatA K (.ref a) (.ref b) H Q :=
  ⟨a, b, xs, ys, rfl, rfl, h1, h2, sze _ hl, fun z => absurd z hx, fun _ z => absurd z hy, fun _ _ l hl => q l _ (Ex.new hl) (SqT.of upd_same)⟩
theorem k_fmod {i j : Int} (c : j ≠ 0) (hj : 0 < j) (q : Q (.int (i % j)) H) : rI (fun _ j => j ≠ 0) (fun i j => .int (i.fmod j)) (.int i) (.int j) H Q := k_mod hj q
theorem pow3_ok {x a : Int} (h1 : 0 ≤ x ∧ x < 2147483587) (h2 : 0 ≤ a ∧ a ≤ 900) : CPow (x * (2 * a + 259) + 72035 * a * a + 145) 3 := by
  have e1 : x * (2 * a + 259) ≤ 2147483587 * (2 * a + 259) := Int.mul_le_mul_of_nonneg_right (by omega) (by omega)
  have e2 : 0 ≤ x * (2 * a + 259) := Int.mul_nonneg (by omega) (by omega)
  have e3 : 72035 * a * a ≤ 72035 * a * 900 := Int.mul_le_mul_of_nonneg_left (by omega) (by omega)
  have e4 : 0 ≤ 72035 * a * a := Int.mul_nonneg (by omega) (by omega)
  generalize x * (2 * a + 259) = y at *
  generalize 72035 * a * a = z at *
  exact ⟨by omega, by omega, by omega⟩
theorem k_powL {i j : Int} (c : CPow i j) (q : ∀ z : Int, z = i ^ j.toNat → Q (.int z) H) : rI CPow (fun i j => .int (i ^ j.toNat)) (.int i) (.int j) H Q := k_pow c (q _ rfl)
theorem atI_mod {ns : List Int} {i : Int} (h : 0 < ns.length) : ∃ z, atI (ns.map V.int) (i % (ns.length : Int)) = some (V.int z) := by
  have h1 : 0 ≤ i % (ns.length : Int) := Int.emod_nonneg i (by omega)
  have h2 : i % (ns.length : Int) < (ns.length : Int) := Int.emod_lt_of_pos i (by omega)
  have h3 : (((i % (ns.length : Int)).toNat : Nat) : Int) = i % (ns.length : Int) := Int.toNat_of_nonneg h1
  have h4 : (i % (ns.length : Int)).toNat < ns.length := by omega
  refine ⟨ns[(i % (ns.length : Int)).toNat], ?_⟩
  have e : atI (ns.map V.int) (((i % (ns.length : Int)).toNat : Nat) : Int) = some (V.int ns[(i % (ns.length : Int)).toNat]) := atI_nat (by rw [List.getElem?_map, List.getElem?_eq_getElem h4]; rfl)
  rw [h3] at e
  exact e
theorem atI_lt {xs : List V} {i : Int} (h0 : 0 ≤ i) (h : i < (xs.length : Int)) : ∃ z ∈ xs, atI xs i = some z := by
  obtain ⟨j, rfl⟩ := Int.eq_ofNat_of_zero_le h0
  have hj : j < xs.length := by omega
  exact ⟨xs[j], List.getElem_mem hj, atI_nat (List.getElem?_eq_getElem hj)⟩
theorem cutV_map {ns : List Int} {lo hi : Option Int} : ∃ ms : List Int, cutV (ns.map V.int) lo hi = ms.map V.int := by
  unfold cutV
  rw [← List.map_drop, ← List.map_take]
  exact ⟨_, rfl⟩
theorem k_makeK {C : Addr} {n m : Nat} {sp : Sp} {gV : List V → List V → List V} {E : XK} {t tk : TA} (h : t σ H fun vs H1 => tk σ H1 fun zs H2 => vs.length = n ∧ zs.length = m ∧ ∀ x dx, H2 x = none → H2 dx = none → dx ≠ x →
  sp (gV (.ref x :: vs) zs) (upd (upd H2 dx (.own x)) x (.ins C dx [])) (fun v H3 => v = .non ∧ Q (.ref x) H3) E) : tMakeK C n m sp gV E t tk σ H Q := h
/-- a list of ints against [] -/
theorem dpAll_ints (H : Hp) : ∀ ns : List Int, DpAll K H (ns.map V.int) (ns.map PyData.int)
  | [] => .nil
  | n :: ns => .cons (.int n) (dpAll_ints H ns)
theorem ints_lay : ∀ ns : List Int, PyData.canLayAll0 (ns.map PyData.int) = true ∧ PyData.depthAll (ns.map PyData.int) = 0
  | [] => ⟨by simp [PyData.canLayAll0], by simp [PyData.depthAll]⟩
  | n :: ns => by
    obtain ⟨h1, h2⟩ := ints_lay ns
    exact ⟨by simp [PyData.canLayAll0, PyData.canLay0, h1], by simp [PyData.depthAll, PyData.depth, h2]⟩
theorem ints_shaped (ns : List Int) : SeqAt.shaped (.list (ns.map PyData.int)) = true := by
  obtain ⟨h1, h2⟩ := ints_lay ns
  unfold SeqAt.shaped
  simp [PyData.canLay0, PyData.depth, h1, h2]
theorem k_neNil {p l : Addr} {ns : List Int} (h : SqL K H p (ns.map V.int)) (h2 : H l = some (.lst [])) (q : Q (.bl (decide (ns ≠ []))) H) : rNeD K (.ref p) (.ref l) H Q := by
  refine ⟨_, _, .lst h (dpAll_ints H ns), .lst (SqL.of h2) .nil, ints_shaped ns, by decide +kernel, ?_⟩
  have e : (!PyData.eqv (.list (ns.map PyData.int)) (.list [])) = decide (ns ≠ []) := by
    cases ns with
    | nil => rfl
    | cons n ns => rfl
  rw [e]
  exact q
end
/-- what a row of numbers tells -/
def RowOf (R : Rl) (xs : List Int) : Prop := (R.turn = none ∧ xs = [R.p, R.q, R.k]) ∨ ∃ t s r, R.turn = some (t, s, r) ∧ xs = [R.p, R.q, R.k, t, s, r]
def TOk (t s r : Int) : Prop := 1 ≤ t ∧ t ≤ 8 ∧ 1 ≤ s ∧ s ≤ 8 ∧ -6 ≤ r ∧ r ≤ 6
theorem ok_num {q p d1 d2 k k' : Int} (h1 : 0 ≤ d1 ∧ d1 < 3) (hq : q = 1 + d1) (h2 : 0 ≤ d2 ∧ d2 < 1 + 3 * q) (hp : p = min 6 (q + d2)) (h3 : -6 ≤ k ∧ k ≤ 6) (hk : k' = min 6 (if p + k < 2 * q then 2 * q - p else k)) : Rl.Ok ⟨p, q, k', none⟩ := by
  refine ⟨?_, ?_, ?_, ?_, ?_, ?_, fun t s r e => by cases e⟩ <;> dsimp only <;> split at hk <;> omega
end M
namespace M
open PySem PySem.Spec PyProof.Rows L2 Evl
local macro_rules | `(tactic| walk_at "ar") => `(tactic| first | exact rfl | omega | (simp only [List.length_map, List.length_cons, List.length_nil] at *; omega) | decide)
local macro_rules | `(tactic| walk_at "ex") => `(tactic| first | with_reducible assumption | exact Ex.refl _ | (refine' Ex.trans ?a ?b; (case b => with_reducible assumption); (case a => walk_at "ex")) | (refine' Ex.mu2 ?a ?n ?b; (case b => with_reducible assumption); (case n => with_reducible assumption); (case a => walk_at "ex")))
local macro_rules | `(tactic| walk_at "exn") => `(tactic| first | with_reducible assumption | exact ExN.refl _ | (refine' ExN.trans ?a (ExN.of ?b); (case b => with_reducible assumption); (case a => walk_at "exn")) | (refine' ExN.trans ?a ?b; (case b => with_reducible assumption); (case a => walk_at "exn")))
local macro_rules | `(tactic| walk_at "px") => `(tactic| first | with_reducible assumption | exact PX.refl _ _ | (refine' PX.of ?a; (case a => walk_at "ex0")) | (refine' PX.trans ?a (PX.of ?b); (case b => with_reducible assumption); (case a => walk_at "px")) | (refine' PX.trans ?a ?b; (case b => with_reducible assumption); (case a => walk_at "px")))
local macro_rules | `(tactic| walk_at "ex0") => `(tactic| with_reducible assumption)
local macro_rules | `(tactic| walk_at "ln") => `(tactic| first | exact rfl | omega | (simp only [scaleF, addF, List.length_map, List.length_zip, List.length_cons, List.length_nil] <;> omega))
local macro_rules | `(tactic| walk_at "kn") => `(tactic| first
  | with_reducible assumption
  | ((with_reducible refine' Fld.mono ?e ?m); (case e => with_reducible assumption); (case m => walk_at "kn"))
  | ((with_reducible refine' Ins.mono ?e ?m); (case e => with_reducible assumption); (case m => walk_at "kn"))
  | ((with_reducible refine' SqT.of ?m); (case m => walk_at "kn"))
  | ((with_reducible refine' SqL.of ?m); (case m => walk_at "kn"))
  | with_reducible exact kn_DEEDS (by assumption)
  | with_reducible exact kn_INNER (by assumption)
  | with_reducible exact kn_ONCE (by assumption)
  | with_reducible exact kn_TWICE (by assumption)
  | ((with_reducible refine' RB.mono ?e ?m); (case e => with_reducible assumption); (case m => walk_at "kn"))
  | ((with_reducible refine' RuleI.mono ?e ?m); (case e => with_reducible assumption); (case m => walk_at "kn"))
  | ((with_reducible refine' TestAt.mono ?e ?m); (case e => with_reducible assumption); (case m => walk_at "kn"))
  | ((with_reducible refine' TO_mono ?e ?m); (case e => with_reducible assumption); (case m => walk_at "kn"))
  | ((with_reducible refine' CaseAt.mono ?e ?m); (case e => with_reducible assumption); (case m => walk_at "kn"))
  | ((with_reducible refine' LT.fair ?e ?m); (case e => with_reducible assumption); (case m => with_reducible assumption))
  | ((with_reducible refine' LT.turn ?e ?m); (case e => with_reducible assumption); (case m => with_reducible assumption))
  | ((with_reducible refine' FormsB.mono ?e ?m); (case e => with_reducible assumption); (case m => walk_at "kn"))
  | ((with_reducible refine' tl_mono ?e ?m); (case e => with_reducible assumption); (case m => walk_at "kn"))
  | ((with_reducible refine' ExN.t ?e ?m); (case e => with_reducible assumption); (case m => walk_at "kn"))
  | ((with_reducible refine' ExN.fld ?e ?m); (case e => with_reducible assumption); (case m => walk_at "kn"))
  | ((with_reducible refine' ExN.ins ?e ?m); (case e => with_reducible assumption); (case m => walk_at "kn"))
  | ((with_reducible refine' RuleI.monoN ?e ?m); (case e => with_reducible assumption); (case m => walk_at "kn"))
  | ((with_reducible refine' TestAt.monoN ?e ?m); (case e => with_reducible assumption); (case m => walk_at "kn"))
  | ((with_reducible refine' CaseAt.monoN ?e ?m); (case e => with_reducible assumption); (case m => walk_at "kn"))
  | ((with_reducible refine' FormsB.monoN ?e ?m); (case e => with_reducible assumption); (case m => walk_at "kn"))
  | ((with_reducible refine' tl_monoN ?e ?m); (case e => with_reducible assumption); (case m => walk_at "kn"))
  | ((with_reducible refine' LT.mono ?e ?m); (case e => with_reducible assumption); (case m => walk_at "kn"))
  | ((with_reducible refine' PairI.mono ?e ?m); (case e => with_reducible assumption); (case m => walk_at "kn"))
  | ((with_reducible refine' WrongAt.mono ?e ?m); (case e => with_reducible assumption); (case m => walk_at "kn"))
  | ((with_reducible refine' Pen.mono ?e ?m); (case e => with_reducible assumption); (case m => walk_at "kn"))
  | ((with_reducible refine' PX.t ?e ?m); (case e => with_reducible assumption); (case m => walk_at "kn"))
  | ((with_reducible refine' PX.rule ?e ?m); (case e => with_reducible assumption); (case m => walk_at "kn"))
  | ((with_reducible refine' ex_t ?e ?m); (case e => with_reducible assumption); (case m => walk_at "kn"))
  | ((with_reducible refine' ex_l ?e ?m); (case e => with_reducible assumption); (case m => walk_at "kn"))
  | ((with_reducible refine' Ex.at ?e ?m); (case e => with_reducible assumption); (case m => walk_at "kn"))
  | ((with_reducible refine' Mu.t ?e ?n ?m); (case e => with_reducible assumption); (case n => with_reducible assumption); (case m => walk_at "kn"))
  | ((with_reducible refine' Mu.lst ?e ?n ?m); (case e => with_reducible assumption); (case n => with_reducible assumption); (case m => walk_at "kn"))
  | ((with_reducible refine' Mu.fld ?e ?n ?m); (case e => with_reducible assumption); (case n => with_reducible assumption); (case m => walk_at "kn")))
local macro_rules | `(tactic| walk_at "st") => `(tactic| first
  | with_reducible refine k_seq ?_
  | with_reducible refine k_asg ?_
  | with_reducible refine k_ret ?_
  | with_reducible refine k_drop ?_
  | with_reducible refine k_ifS ?_
  | with_reducible refine k_name ?_
  | with_reducible refine k_next ?_
  | ((with_reducible refine' k_var ?hv ?_); case hv => exact rfl)
  | with_reducible refine k_c ?_
  | with_reducible refine k_fld ?_
  | ((with_reducible refine' k_fld2 ?hv ?_); case hv => walk_at "kn")
  | with_reducible refine k_op ?_
  | with_reducible refine k_un ?_
  | with_reducible refine k_add ?_
  | with_reducible refine k_sub ?_
  | with_reducible refine k_neg ?_
  | ((with_reducible refine' k_mul ?hv ?_); case hv => first | (left; constructor <;> omega) | (right; constructor <;> omega))
  | ((with_reducible refine' k_fdiv ?hv ?_); case hv => constructor <;> omega)
  | ((with_reducible refine' k_mod ?hv ?_); case hv => omega)
  | with_reducible refine k_lt ?_
  | with_reducible refine k_le ?_
  | with_reducible refine k_gt ?_
  | with_reducible refine k_ge ?_
  | with_reducible refine k_eqI ?_
  | with_reducible refine k_eqT ?_
  | with_reducible refine k_neI ?_
  | with_reducible refine k_isN_int ?_
  | with_reducible refine k_isN_ref ?_
  | with_reducible refine k_isN_non ?_
  | with_reducible refine k_notN_int ?_
  | with_reducible refine k_notN_ref ?_
  | with_reducible refine k_notN_non ?_
  | with_reducible refine k_test ?_
  | with_reducible refine k_B ?_
  | with_reducible refine k_bx ?_
  | with_reducible refine k_not ?_
  | with_reducible refine k_notV ?_
  | with_reducible refine k_and ?_
  | with_reducible refine k_or ?_
  | with_reducible refine k_andV ?_
  | with_reducible refine k_orV ?_
  | with_reducible refine k_if ?_
  | with_reducible refine k_chain ?_
  | with_reducible refine iteT ?_
  | with_reducible refine iteF ?_
  | with_reducible refine k_nil ?_
  | with_reducible refine k_cons ?_
  | with_reducible refine k_tup ?_
  | with_reducible refine k_lst ?_
  | with_reducible refine k_call ?_
  | with_reducible refine k_meth ?_
  | ((with_reducible refine' k_meth2 ?hv ?_); case hv => walk_at "kn")
  | with_reducible refine k_make ?_
  | with_reducible refine k_cb ?_
  | with_reducible refine k_min2 ?_
  | with_reducible refine k_max2 ?_
  | with_reducible refine k_int1 ?_
  | with_reducible refine k_int1b ?_
  | with_reducible refine k_abs1 ?_
  | ((with_reducible refine' k_gtup ?hv ?hw ?_); (case hv => walk_at "kn"); (case hw => rfl))
  | with_reducible refine k_gcons ?_
  | with_reducible refine k_gnil ?_
  | with_reducible refine k_isi_ii ?_
  | with_reducible refine k_isi_ib ?_
  | with_reducible refine k_isi_ss ?_
  | ((with_reducible refine' k_isi_tt ?hv ?_); case hv => walk_at "kn")
  | with_reducible refine iteNT ?_
  | with_reducible refine iteNF ?_
  | with_reducible refine k_cval ?_
  | ((with_reducible refine' k_cval2 ?hv ?_); case hv => exact kn_most (by assumption))
  | with_reducible refine k_lc ?_
  | with_reducible refine k_iT ?_
  | ((with_reducible refine' k_iT2 ?hv ?_); case hv => walk_at "kn")
  | with_reducible refine k_iL ?_
  | ((with_reducible refine' k_iL2 ?hv ?_); case hv => walk_at "kn")
  | with_reducible refine k_i1 ?_
  | ((with_reducible refine' k_i1a ?hv ?_); case hv => constructor <;> omega)
  | with_reducible refine k_i2 ?_
  | ((with_reducible refine' k_i2a ?hv ?_); case hv => refine ⟨?_, ?_, ?_, ?_⟩ <;> omega)
  | with_reducible refine k_iZ ?_
  | ((with_reducible refine' k_iZa ?hv ?hw ?_); (case hv => walk_at "kn"); (case hw => walk_at "kn"))
  | with_reducible refine k_iN ?_
  | ((with_reducible refine' k_lenT ?hv ?_); case hv => walk_at "kn")
  | ((with_reducible refine' k_lenL ?hv ?_); case hv => walk_at "kn")
  | ((with_reducible refine' k_ixT ?hv ?hw ?_); (case hv => walk_at "kn"); (case hw => rfl))
  | ((with_reducible refine' k_tupL ?hv ?_); (case hv => walk_at "kn"); (refine' fun _ _ _ _ _ => ?_))
  | ((with_reducible refine' k_tupT ?hv ?_); (case hv => walk_at "kn"))
  | ((with_reducible refine' k_new ?hv ?_); (case hv => (simp only [List.length_cons, List.length_nil]; exact sze _ (by omega))); (refine' fun _ _ _ _ _ => ?_))
  | ((with_reducible refine' k_isiW ?hT ?hv ?_); (case hT => assumption); (case hv => walk_at "kn"))
  | ((with_reducible refine' k_isiT ?hT ?hv ?_); (case hT => assumption); (case hv => walk_at "kn"))
  | ((with_reducible refine' k_isiC ?hT ?hv ?_); (case hT => assumption); (case hv => walk_at "kn"))
  | ((with_reducible refine' k_isiLT ?hv ?hw ?_); (case hv => walk_at "kn"); (case hw => walk_at "kn"))
  | ((with_reducible refine' k_isN_TO ?hv ?_); (case hv => walk_at "kn"))
  | ((with_reducible refine' k_notN_TO ?hv ?_); (case hv => walk_at "kn"))
  | ((with_reducible refine' k_notInDeeds ?hv ?_); (case hv => walk_at "kn"))
  | with_reducible refine k_eqPut ?_
  | ((refine' k_eqB .inn ?hv ?hw ?hx ?_); (case hv => walk_at "kn"); (case hw => walk_at "kn"); (case hx => rfl))
  | ((refine' k_eqB .lf ?hv ?hw ?hx ?_); (case hv => walk_at "kn"); (case hw => walk_at "kn"); (case hx => rfl))
  | ((refine' k_eqB .ls ?hv ?hw ?hx ?_); (case hv => walk_at "kn"); (case hw => walk_at "kn"); (case hx => rfl))
  | ((refine' k_eqB .ff ?hv ?hw ?hx ?_); (case hv => walk_at "kn"); (case hw => walk_at "kn"); (case hx => rfl))
  | ((refine' k_eqB .fs ?hv ?hw ?hx ?_); (case hv => walk_at "kn"); (case hw => walk_at "kn"); (case hx => rfl))
  | ((refine' k_eqB .tf ?hv ?hw ?hx ?_); (case hv => walk_at "kn"); (case hw => walk_at "kn"); (case hx => rfl))
  | ((with_reducible refine' k_yes ?hv ?_); (case hv => walk_at "ar"))
  | ((with_reducible refine' k_no ?hv ?_); (case hv => walk_at "ar"))
  | ((with_reducible refine' k_nyes ?hv ?_); (case hv => walk_at "ar"))
  | ((with_reducible refine' k_nno ?hv ?_); (case hv => walk_at "ar"))
  | with_reducible refine k_sfld ?_
  | ((with_reducible refine' k_ixL ?hv ?hw ?_); (case hv => walk_at "kn"); (case hw => rfl))
  | ((with_reducible refine' k_sumTu _ ?hv ?_); (case hv => walk_at "kn"))
)
local macro_rules | `(tactic| walk_at "go") => `(tactic| repeat (walk_at "st"))
local macro_rules | `(tactic| walk_at "run") => `(tactic| (dsimp only [cxK]; walk_at "go"))

section
variable {P : Program} {w : World} {K : PySem.W.Frag} {mg : Str → Option Value} {base : Heap}
local macro_rules | `(tactic| walk_at "st") => `(tactic| first
  | ((with_reducible refine' k_powL ?ha ?_); (case ha => first | exact ⟨by omega, by omega, by omega⟩ | exact pow3_ok (by omega) (by omega)); (refine' fun _ _ => ?_)))
local macro_rules | `(tactic| walk_at "st") => `(tactic| first
  | ((with_reducible refine' k_setL ?ha ?hb ?_); (case ha => walk_at "kn"); (case hb => rfl); (refine' fun _ _ _ => ?_)))
local macro_rules | `(tactic| walk_at "st") => `(tactic| first
  | ((with_reducible refine' k_neNil ?ha ?hb ?_); (case ha => walk_at "kn"); (case hb => walk_at "kn")))
local macro_rules | `(tactic| walk_at "st") => `(tactic| first
  | ((with_reducible refine' k_slA  ?_)))
local macro_rules | `(tactic| walk_at "st") => `(tactic| first
  | ((with_reducible refine' k_part  ?_)))
local macro_rules | `(tactic| walk_at "st") => `(tactic| first
  | ((with_reducible refine' k_noPart  ?_)))
local macro_rules | `(tactic| walk_at "st") => `(tactic| first
  | ((with_reducible refine' k_bx  ?_)))
local macro_rules | `(tactic| walk_at "st") => `(tactic| first
  | ((with_reducible refine' k_gsub  ?_)))
local macro_rules | `(tactic| walk_at "st") => `(tactic| first
  | ((with_reducible refine' k_isN_TO ?ha ?_); (case ha => walk_at "kn")))
def sp__law_draw (K : PySem.W.Frag) : Sp := PM (fun i : Addr × Addr × Int × Int => [.ref i.1, .int i.2.2.2]) (fun i => i.1) (fun i H => Pen H i.1 i.2.1 i.2.2.1 ∧ i.2.2.1 ≤ 900 ∧ 1 ≤ i.2.2.2 ∧ i.2.2.2 ≤ 900)
  fun i _ v H' => ∃ d : Int, v = .int d ∧ (0 ≤ d ∧ d < i.2.2.2) ∧ Pen H' i.1 i.2.1 (i.2.2.1 + 1)
theorem ok__law_draw (T : TX K mg) : Ok P w K mg base 1 (He.ga K "_law_draw") ["_law_pen_here", "_law_many"] (sp__law_draw K) := by
  obtain ⟨fd, F⟩ := T.F__law_draw
  refine ⟨fd, okN F sc__law_draw (by first | exact SV.len (fun _ => rfl) | exact PR.len (fun _ => rfl) | exact PM.len (fun _ => rfl) | exact SJ.len (fun _ => rfl) | exact spEqB_len) (fun cdv A outer s H vs Q E hr h => ?_), F.bindsN (fun _ _ _ _ _ _ us hl => match us, hl with | [_, _], _ => rfl), F.kp⟩
  obtain ⟨⟨pen, c, n, m⟩, rfl, ⟨⟨ns, at_, g, h1, h2, h3, ⟨h4, h5⟩, h6⟩, hn, m1, m2⟩, q⟩ := h
  dsimp only at h1 h2 h3 h4 h5 hn m1 m2 q
  refine ⟨_, (pss_cons (ps_if (pt_cmpR op_gt (pe_ix ix_list (pv 0) pe_int (fun _ _ => rfl)) pe_int (nomark _)) (pss_cons (ps_set (i := 5) sc__law_draw.nd rfl (Or.inl rfl) (pe_op op_modN (pe_callTy (c_int1) (by rfl) T.n_int (by decide +kernel) (pa_cons (pe_ix ix_list (pv 0) pe_int (fun _ _ => rfl)) pa_nil)) (pv 1)))
      (pss_cons (ps_asg (pe_op op_fdivN (pe_callTy (c_int1) (by rfl) T.n_int (by decide +kernel) (pa_cons (pe_ix ix_list (pv 0) pe_int (fun _ _ => rfl)) pa_nil)) (pv 1)) (pg_sub (pv 0) pe_int set_list))
      (pss_one (ps_ret (pv 5))))) pss_nil)
      (pss_cons (ps_set (i := 2) sc__law_draw.nd rfl (Or.inl rfl) (pe_ix ix_list (pv 0) pe_int (fun _ _ => rfl)))
      (pss_cons (ps_asg (pe_op op_add (pv 2) pe_int) (pg_sub (pv 0) pe_int set_list))
      (pss_cons (ps_set (i := 3) sc__law_draw.nd rfl (Or.inl rfl) (pe_op op_add (pe_op op_mul pe_int (pv 2)) pe_int))
      (pss_cons (ps_if (pt_cmpR (op_neD (room64 hr)) (pe_ix ix_list (pv 0) pe_int (fun _ _ => rfl)) (pe_lst pa_nil) (nomark _)) (pss_one (ps_set (i := 3) sc__law_draw.nd rfl (Or.inl rfl) (pe_ix ix_list (pe_ix ix_list (pv 0) pe_int (fun _ _ => rfl)) (pe_op op_modN (pe_callTy (c_int1) (by rfl) T.n_int (by decide +kernel) (pa_cons (pv 2) pa_nil)) (pe_callB (c_lenS) (by rfl) T.n_len (by decide +kernel) (pa_cons (pe_ix ix_list (pv 0) pe_int (fun _ _ => rfl)) pa_nil))) (fun _ _ => rfl)))) pss_nil)
      (pss_cons (ps_if (PW.pt (pw_and (pt_cmpR op_lt (pv 2) (pe_callB (c_lenS) (by rfl) T.n_len (by decide +kernel) (pa_cons (pe_ix ix_list (pv 0) pe_int (fun _ _ => rfl)) pa_nil)) (nomark _)) (pw_and1 (pt_cmpR op_ge (pe_callB (c_abs1) (by rfl) T.n_abs (by decide +kernel) (pa_cons (pv 3) pa_nil)) (pe_op op_pow pe_int pe_int) (nomark _))))) (pss_cons (ps_set (i := 6) sc__law_draw.nd rfl (Or.inl rfl) (pe_op op_add (pe_op op_mul pe_int (pe_op op_sub (pe_callB (c_abs1) (by rfl) T.n_abs (by decide +kernel) (pa_cons (pv 3) pa_nil)) (pe_op op_pow pe_int pe_int))) (pe_callTy (c_int1) (by rfl) T.n_int (by decide +kernel) (pa_cons (pe_cmpR op_lt (pv 3) pe_int (nomark _)) pa_nil))))
      (pss_cons (ps_asg (pe_op op_fdivN (pe_callTy (c_int1) (by rfl) T.n_int (by decide +kernel) (pa_cons (pv 6) pa_nil)) (pv 1)) (pg_sub (pv 0) pe_int set_list))
      (pss_one (ps_ret (pe_op op_modN (pe_callTy (c_int1) (by rfl) T.n_int (by decide +kernel) (pa_cons (pv 6) pa_nil)) (pv 1)))))) pss_nil)
      (pss_cons (ps_set (i := 4) sc__law_draw.nd rfl (Or.inl rfl) (pe_op op_modN (pe_callTy (c_int1) (by rfl) T.n_int (by decide +kernel) (pa_cons (pe_op op_pow (pe_op op_add (pe_op op_add (pe_op op_modN (pe_callTy (c_int1) (by rfl) T.n_int (by decide +kernel) (pa_cons (pv 3) pa_nil)) pe_int) (pe_op op_mul pe_int (pv 2))) pe_int) pe_int) pa_nil)) pe_int))
      (pss_cons (ps_set (i := 4) sc__law_draw.nd rfl (Or.inl rfl) (pe_op op_modN (pe_callTy (c_int1) (by rfl) T.n_int (by decide +kernel) (pa_cons (pe_op op_pow (pe_op op_add (pe_op op_add (pe_op op_mul (pv 4) (pe_op op_add (pe_op op_mul pe_int (pv 2)) pe_int)) (pe_op op_mul (pe_op op_mul pe_int (pv 2)) (pv 2))) pe_int) pe_int) pa_nil)) pe_int))
      (pss_one (ps_ret (pe_op op_modN (pe_callTy (c_int1) (by rfl) T.n_int (by decide +kernel) (pa_cons (pe_op op_fdivN (pv 4) pe_int) pa_nil)) (pv 1)))))))))))), ?_⟩
  walk_at "run"
  refine k_dec (fun g1 => ?_) (fun g1 => ?_)
  · walk_at "go"
    rename_i H1 px hp1
    refine q _ _ px ⟨_, rfl, ⟨Int.emod_nonneg _ (by omega), Int.emod_lt_of_pos _ (by omega)⟩, ⟨ns, at_, g / m, hp1, px.m _ _ h3 h2, h3, ⟨h4, by omega⟩, Int.ediv_nonneg h6 (by omega)⟩⟩
  · walk_at "go"
    rename_i H1 px hp1 l H2 hl e2 h2l
    have hp1 : H1 pen = some (.lst [.ref c, .int (at_ + 1), .int g]) := hp1
    have hp2 := e2 _ _ hp1
    have hc2 := e2 _ _ (px.m _ _ h3 h2)
    refine k_neNil (SqL.of hc2) h2l ?_
    walk_at "go"
    refine k_dec (fun g2 => ?_) (fun g2 => ?_)
    · have hlen : 0 < ns.length := List.length_pos_iff.mpr g2
      walk_at "go"
      rw [List.length_map]
      obtain ⟨z, hz⟩ := atI_mod (i := at_) hlen
      refine k_mod (by omega) (k_ixL (SqL.of hc2) hz ?_)
      walk_at "go"
      refine k_dec (fun g3 => ?_) (fun g3 => ?_)
      · walk_at "go"
        rename_i P18 hP18
        refine k_dec (fun g4 => ?_) (fun g4 => ?_)
        · walk_at "go"
          rename_i P19 hP19 H3 px3 hp3
          refine q _ _ ((px.trans (PX.of e2)).trans px3) ⟨_, rfl, ⟨Int.emod_nonneg _ (by omega), Int.emod_lt_of_pos _ (by omega)⟩, ⟨ns, at_ + 1, _, hp3, px3.m _ _ h3 hc2, h3, ⟨by omega, by omega⟩, Int.ediv_nonneg ?_ (by omega)⟩⟩
          have : P18 = P19 := by rw [hP18, hP19]
          split <;> split at g4 <;> omega
        · walk_at "go"
          refine q _ _ (px.trans (PX.of e2)) ⟨_, rfl, ⟨Int.emod_nonneg _ (by omega), Int.emod_lt_of_pos _ (by omega)⟩, ⟨ns, at_ + 1, g, hp2, hc2, h3, ⟨by omega, by omega⟩, h6⟩⟩
      · walk_at "go"
        refine q _ _ (px.trans (PX.of e2)) ⟨_, rfl, ⟨Int.emod_nonneg _ (by omega), Int.emod_lt_of_pos _ (by omega)⟩, ⟨ns, at_ + 1, g, hp2, hc2, h3, ⟨by omega, by omega⟩, h6⟩⟩
    · generalize 63183 * at_ + 3779 = z
      walk_at "go"
      refine k_dec (fun g3 => ?_) (fun g3 => ?_)
      · walk_at "go"
        rename_i P18 hP18
        refine k_dec (fun g4 => ?_) (fun g4 => ?_)
        · walk_at "go"
          rename_i P19 hP19 H3 px3 hp3
          refine q _ _ ((px.trans (PX.of e2)).trans px3) ⟨_, rfl, ⟨Int.emod_nonneg _ (by omega), Int.emod_lt_of_pos _ (by omega)⟩, ⟨ns, at_ + 1, _, hp3, px3.m _ _ h3 hc2, h3, ⟨by omega, by omega⟩, Int.ediv_nonneg ?_ (by omega)⟩⟩
          have : P18 = P19 := by rw [hP18, hP19]
          split <;> split at g4 <;> omega
        · walk_at "go"
          refine q _ _ (px.trans (PX.of e2)) ⟨_, rfl, ⟨Int.emod_nonneg _ (by omega), Int.emod_lt_of_pos _ (by omega)⟩, ⟨ns, at_ + 1, g, hp2, hc2, h3, ⟨by omega, by omega⟩, h6⟩⟩
      · walk_at "go"
        refine q _ _ (px.trans (PX.of e2)) ⟨_, rfl, ⟨Int.emod_nonneg _ (by omega), Int.emod_lt_of_pos _ (by omega)⟩, ⟨ns, at_ + 1, g, hp2, hc2, h3, ⟨by omega, by omega⟩, h6⟩⟩
theorem u_draw {pen c : Addr} {n m : Int} {H : Hp} {Q : VK} {E : XK} (hP : Pen H pen c n) (hb : n ≤ 900 ∧ 1 ≤ m ∧ m ≤ 900) (q : ∀ (d : Int) H', PX pen H H' → (0 ≤ d ∧ d < m) → Pen H' pen c (n + 1) → Q (.int d) H') : sp__law_draw K [.ref pen, .int m] H Q E :=
  ⟨(pen, c, n, m), rfl, ⟨hP, hb⟩, fun v H' e ⟨d, ev, h, p⟩ => ev ▸ q d H' e h p⟩
local macro_rules | `(tactic| walk_at "st") => `(tactic| first
  | ((with_reducible refine' u_draw ?ha ?hb ?_); (case ha => walk_at "kn"); (case hb => refine ⟨?_, ?_, ?_⟩ <;> omega); (refine' fun _ _ _ _ _ => ?_)))
def sp__law_pick (K : PySem.W.Frag) : Sp := PM (fun i : Addr × Addr × Int × Addr × List V => [.ref i.1, .ref i.2.2.2.1]) (fun i => i.1) (fun i H => Pen H i.1 i.2.1 i.2.2.1 ∧ i.2.2.1 ≤ 900 ∧ H i.2.2.2.1 = some (.lst i.2.2.2.2) ∧ i.2.2.2.1 ≠ i.1 ∧ 1 ≤ i.2.2.2.2.length ∧ i.2.2.2.2.length ≤ 900)
  fun i _ v H' => v ∈ i.2.2.2.2 ∧ Pen H' i.1 i.2.1 (i.2.2.1 + 1)
theorem ok__law_pick (T : TX K mg) : Ok P w K mg base 3 (He.ga K "_law_pick") ["_law_pen_here", "_law_some"] (sp__law_pick K) := by
  obtain ⟨fd, F⟩ := T.F__law_pick
  obtain ⟨_, G__law_draw, b__law_draw, k__law_draw⟩ := ok__law_draw (P := P) (w := w) (base := base) T
  refine ⟨fd, okN F sc__law_pick (by first | exact SV.len (fun _ => rfl) | exact PR.len (fun _ => rfl) | exact PM.len (fun _ => rfl) | exact SJ.len (fun _ => rfl) | exact spEqB_len) (fun cdv A outer s H vs Q E hr h => ?_), F.bindsN (fun _ _ _ _ _ _ us hl => match us, hl with | [_, _], _ => rfl), F.kp⟩
  obtain ⟨⟨pen, c, n, l, xs⟩, rfl, ⟨hP, hn, hl, ne, l1, l2⟩, q⟩ := h
  dsimp only at hP hn hl ne l1 l2 q
  refine ⟨_, (pss_one (ps_ret (pe_ix ix_list (pv 1) (pe_call G__law_draw (hr.mono (by decide)) (by rfl) T.g__law_draw k__law_draw b__law_draw .nil pass0 (pa_cons (pv 0) (pa_cons (pe_callB (c_lenS) (by rfl) T.n_len (by decide +kernel) (pa_cons (pv 1) pa_nil)) pa_nil))) (fun _ _ => rfl)))), ?_⟩
  walk_at "run"
  rename_i d H1 px hd hP1
  obtain ⟨z, hz, e⟩ := atI_lt hd.1 hd.2
  refine k_ixL (SqL.of (px.m _ _ ne hl)) e ?_
  exact q _ _ px ⟨hz, hP1⟩
theorem u_pick {pen c l : Addr} {n : Int} {xs : List V} {H : Hp} {Q : VK} {E : XK} (hP : Pen H pen c n) (hl : H l = some (.lst xs)) (ne : l ≠ pen) (hb : n ≤ 900 ∧ 1 ≤ xs.length ∧ xs.length ≤ 900) (q : ∀ v H', PX pen H H' → v ∈ xs → Pen H' pen c (n + 1) → Q v H') : sp__law_pick K [.ref pen, .ref l] H Q E :=
  ⟨(pen, c, n, l, xs), rfl, ⟨hP, hb.1, hl, ne, hb.2.1, hb.2.2⟩, fun v H' e ⟨h, p⟩ => q v H' e h p⟩

end
end M
namespace M
open PySem PySem.Spec PyProof.Rows L2 Evl
local macro_rules | `(tactic| walk_at "ar") => `(tactic| first | exact rfl | omega | (simp only [List.length_map, List.length_cons, List.length_nil] at *; omega) | decide)
local macro_rules | `(tactic| walk_at "ex") => `(tactic| first | with_reducible assumption | exact Ex.refl _ | (refine' Ex.trans ?a ?b; (case b => with_reducible assumption); (case a => walk_at "ex")) | (refine' Ex.mu2 ?a ?n ?b; (case b => with_reducible assumption); (case n => with_reducible assumption); (case a => walk_at "ex")))
local macro_rules | `(tactic| walk_at "exn") => `(tactic| first | with_reducible assumption | exact ExN.refl _ | (refine' ExN.trans ?a (ExN.of ?b); (case b => with_reducible assumption); (case a => walk_at "exn")) | (refine' ExN.trans ?a ?b; (case b => with_reducible assumption); (case a => walk_at "exn")))
local macro_rules | `(tactic| walk_at "px") => `(tactic| first | with_reducible assumption | exact PX.refl _ _ | (refine' PX.of ?a; (case a => walk_at "ex0")) | (refine' PX.trans ?a (PX.of ?b); (case b => with_reducible assumption); (case a => walk_at "px")) | (refine' PX.trans ?a ?b; (case b => with_reducible assumption); (case a => walk_at "px")))
local macro_rules | `(tactic| walk_at "ex0") => `(tactic| with_reducible assumption)
local macro_rules | `(tactic| walk_at "ln") => `(tactic| first | exact rfl | omega | (simp only [scaleF, addF, List.length_map, List.length_zip, List.length_cons, List.length_nil] <;> omega))
local macro_rules | `(tactic| walk_at "kn") => `(tactic| first
  | with_reducible assumption
  | ((with_reducible refine' Fld.mono ?e ?m); (case e => with_reducible assumption); (case m => walk_at "kn"))
  | ((with_reducible refine' Ins.mono ?e ?m); (case e => with_reducible assumption); (case m => walk_at "kn"))
  | ((with_reducible refine' SqT.of ?m); (case m => walk_at "kn"))
  | ((with_reducible refine' SqL.of ?m); (case m => walk_at "kn"))
  | with_reducible exact kn_DEEDS (by assumption)
  | with_reducible exact kn_INNER (by assumption)
  | with_reducible exact kn_ONCE (by assumption)
  | with_reducible exact kn_TWICE (by assumption)
  | ((with_reducible refine' RB.mono ?e ?m); (case e => with_reducible assumption); (case m => walk_at "kn"))
  | ((with_reducible refine' RuleI.mono ?e ?m); (case e => with_reducible assumption); (case m => walk_at "kn"))
  | ((with_reducible refine' TestAt.mono ?e ?m); (case e => with_reducible assumption); (case m => walk_at "kn"))
  | ((with_reducible refine' TO_mono ?e ?m); (case e => with_reducible assumption); (case m => walk_at "kn"))
  | ((with_reducible refine' CaseAt.mono ?e ?m); (case e => with_reducible assumption); (case m => walk_at "kn"))
  | ((with_reducible refine' LT.fair ?e ?m); (case e => with_reducible assumption); (case m => with_reducible assumption))
  | ((with_reducible refine' LT.turn ?e ?m); (case e => with_reducible assumption); (case m => with_reducible assumption))
  | ((with_reducible refine' FormsB.mono ?e ?m); (case e => with_reducible assumption); (case m => walk_at "kn"))
  | ((with_reducible refine' tl_mono ?e ?m); (case e => with_reducible assumption); (case m => walk_at "kn"))
  | ((with_reducible refine' ExN.t ?e ?m); (case e => with_reducible assumption); (case m => walk_at "kn"))
  | ((with_reducible refine' ExN.fld ?e ?m); (case e => with_reducible assumption); (case m => walk_at "kn"))
  | ((with_reducible refine' ExN.ins ?e ?m); (case e => with_reducible assumption); (case m => walk_at "kn"))
  | ((with_reducible refine' RuleI.monoN ?e ?m); (case e => with_reducible assumption); (case m => walk_at "kn"))
  | ((with_reducible refine' TestAt.monoN ?e ?m); (case e => with_reducible assumption); (case m => walk_at "kn"))
  | ((with_reducible refine' CaseAt.monoN ?e ?m); (case e => with_reducible assumption); (case m => walk_at "kn"))
  | ((with_reducible refine' FormsB.monoN ?e ?m); (case e => with_reducible assumption); (case m => walk_at "kn"))
  | ((with_reducible refine' tl_monoN ?e ?m); (case e => with_reducible assumption); (case m => walk_at "kn"))
  | ((with_reducible refine' LT.mono ?e ?m); (case e => with_reducible assumption); (case m => walk_at "kn"))
  | ((with_reducible refine' PairI.mono ?e ?m); (case e => with_reducible assumption); (case m => walk_at "kn"))
  | ((with_reducible refine' WrongAt.mono ?e ?m); (case e => with_reducible assumption); (case m => walk_at "kn"))
  | ((with_reducible refine' Pen.mono ?e ?m); (case e => with_reducible assumption); (case m => walk_at "kn"))
  | ((with_reducible refine' PX.t ?e ?m); (case e => with_reducible assumption); (case m => walk_at "kn"))
  | ((with_reducible refine' PX.rule ?e ?m); (case e => with_reducible assumption); (case m => walk_at "kn"))
  | ((with_reducible refine' ex_t ?e ?m); (case e => with_reducible assumption); (case m => walk_at "kn"))
  | ((with_reducible refine' ex_l ?e ?m); (case e => with_reducible assumption); (case m => walk_at "kn"))
  | ((with_reducible refine' Ex.at ?e ?m); (case e => with_reducible assumption); (case m => walk_at "kn"))
  | ((with_reducible refine' Mu.t ?e ?n ?m); (case e => with_reducible assumption); (case n => with_reducible assumption); (case m => walk_at "kn"))
  | ((with_reducible refine' Mu.lst ?e ?n ?m); (case e => with_reducible assumption); (case n => with_reducible assumption); (case m => walk_at "kn"))
  | ((with_reducible refine' Mu.fld ?e ?n ?m); (case e => with_reducible assumption); (case n => with_reducible assumption); (case m => walk_at "kn")))
local macro_rules | `(tactic| walk_at "st") => `(tactic| first
  | with_reducible refine k_seq ?_
  | with_reducible refine k_asg ?_
  | with_reducible refine k_ret ?_
  | with_reducible refine k_drop ?_
  | with_reducible refine k_ifS ?_
  | with_reducible refine k_name ?_
  | with_reducible refine k_next ?_
  | ((with_reducible refine' k_var ?hv ?_); case hv => exact rfl)
  | with_reducible refine k_c ?_
  | with_reducible refine k_fld ?_
  | ((with_reducible refine' k_fld2 ?hv ?_); case hv => walk_at "kn")
  | with_reducible refine k_op ?_
  | with_reducible refine k_un ?_
  | with_reducible refine k_add ?_
  | with_reducible refine k_sub ?_
  | with_reducible refine k_neg ?_
  | ((with_reducible refine' k_mul ?hv ?_); case hv => first | (left; constructor <;> omega) | (right; constructor <;> omega))
  | ((with_reducible refine' k_fdiv ?hv ?_); case hv => constructor <;> omega)
  | ((with_reducible refine' k_mod ?hv ?_); case hv => omega)
  | with_reducible refine k_lt ?_
  | with_reducible refine k_le ?_
  | with_reducible refine k_gt ?_
  | with_reducible refine k_ge ?_
  | with_reducible refine k_eqI ?_
  | with_reducible refine k_eqT ?_
  | with_reducible refine k_neI ?_
  | with_reducible refine k_isN_int ?_
  | with_reducible refine k_isN_ref ?_
  | with_reducible refine k_isN_non ?_
  | with_reducible refine k_notN_int ?_
  | with_reducible refine k_notN_ref ?_
  | with_reducible refine k_notN_non ?_
  | with_reducible refine k_test ?_
  | with_reducible refine k_B ?_
  | with_reducible refine k_bx ?_
  | with_reducible refine k_not ?_
  | with_reducible refine k_notV ?_
  | with_reducible refine k_and ?_
  | with_reducible refine k_or ?_
  | with_reducible refine k_andV ?_
  | with_reducible refine k_orV ?_
  | with_reducible refine k_if ?_
  | with_reducible refine k_chain ?_
  | with_reducible refine iteT ?_
  | with_reducible refine iteF ?_
  | with_reducible refine k_nil ?_
  | with_reducible refine k_cons ?_
  | with_reducible refine k_tup ?_
  | with_reducible refine k_lst ?_
  | with_reducible refine k_call ?_
  | with_reducible refine k_meth ?_
  | ((with_reducible refine' k_meth2 ?hv ?_); case hv => walk_at "kn")
  | with_reducible refine k_make ?_
  | with_reducible refine k_cb ?_
  | with_reducible refine k_min2 ?_
  | with_reducible refine k_max2 ?_
  | with_reducible refine k_int1 ?_
  | with_reducible refine k_int1b ?_
  | with_reducible refine k_abs1 ?_
  | ((with_reducible refine' k_gtup ?hv ?hw ?_); (case hv => walk_at "kn"); (case hw => rfl))
  | with_reducible refine k_gcons ?_
  | with_reducible refine k_gnil ?_
  | with_reducible refine k_isi_ii ?_
  | with_reducible refine k_isi_ib ?_
  | with_reducible refine k_isi_ss ?_
  | ((with_reducible refine' k_isi_tt ?hv ?_); case hv => walk_at "kn")
  | with_reducible refine iteNT ?_
  | with_reducible refine iteNF ?_
  | with_reducible refine k_cval ?_
  | ((with_reducible refine' k_cval2 ?hv ?_); case hv => exact kn_most (by assumption))
  | with_reducible refine k_lc ?_
  | with_reducible refine k_iT ?_
  | ((with_reducible refine' k_iT2 ?hv ?_); case hv => walk_at "kn")
  | with_reducible refine k_iL ?_
  | ((with_reducible refine' k_iL2 ?hv ?_); case hv => walk_at "kn")
  | with_reducible refine k_i1 ?_
  | ((with_reducible refine' k_i1a ?hv ?_); case hv => constructor <;> omega)
  | with_reducible refine k_i2 ?_
  | ((with_reducible refine' k_i2a ?hv ?_); case hv => refine ⟨?_, ?_, ?_, ?_⟩ <;> omega)
  | with_reducible refine k_iZ ?_
  | ((with_reducible refine' k_iZa ?hv ?hw ?_); (case hv => walk_at "kn"); (case hw => walk_at "kn"))
  | with_reducible refine k_iN ?_
  | ((with_reducible refine' k_lenT ?hv ?_); case hv => walk_at "kn")
  | ((with_reducible refine' k_lenL ?hv ?_); case hv => walk_at "kn")
  | ((with_reducible refine' k_ixT ?hv ?hw ?_); (case hv => walk_at "kn"); (case hw => rfl))
  | ((with_reducible refine' k_tupL ?hv ?_); (case hv => walk_at "kn"); (refine' fun _ _ _ _ _ => ?_))
  | ((with_reducible refine' k_tupT ?hv ?_); (case hv => walk_at "kn"))
  | ((with_reducible refine' k_new ?hv ?_); (case hv => (simp only [List.length_cons, List.length_nil]; exact sze _ (by omega))); (refine' fun _ _ _ _ _ => ?_))
  | ((with_reducible refine' k_isiW ?hT ?hv ?_); (case hT => assumption); (case hv => walk_at "kn"))
  | ((with_reducible refine' k_isiT ?hT ?hv ?_); (case hT => assumption); (case hv => walk_at "kn"))
  | ((with_reducible refine' k_isiC ?hT ?hv ?_); (case hT => assumption); (case hv => walk_at "kn"))
  | ((with_reducible refine' k_isiLT ?hv ?hw ?_); (case hv => walk_at "kn"); (case hw => walk_at "kn"))
  | ((with_reducible refine' k_isN_TO ?hv ?_); (case hv => walk_at "kn"))
  | ((with_reducible refine' k_notN_TO ?hv ?_); (case hv => walk_at "kn"))
  | ((with_reducible refine' k_notInDeeds ?hv ?_); (case hv => walk_at "kn"))
  | with_reducible refine k_eqPut ?_
  | ((refine' k_eqB .inn ?hv ?hw ?hx ?_); (case hv => walk_at "kn"); (case hw => walk_at "kn"); (case hx => rfl))
  | ((refine' k_eqB .lf ?hv ?hw ?hx ?_); (case hv => walk_at "kn"); (case hw => walk_at "kn"); (case hx => rfl))
  | ((refine' k_eqB .ls ?hv ?hw ?hx ?_); (case hv => walk_at "kn"); (case hw => walk_at "kn"); (case hx => rfl))
  | ((refine' k_eqB .ff ?hv ?hw ?hx ?_); (case hv => walk_at "kn"); (case hw => walk_at "kn"); (case hx => rfl))
  | ((refine' k_eqB .fs ?hv ?hw ?hx ?_); (case hv => walk_at "kn"); (case hw => walk_at "kn"); (case hx => rfl))
  | ((refine' k_eqB .tf ?hv ?hw ?hx ?_); (case hv => walk_at "kn"); (case hw => walk_at "kn"); (case hx => rfl))
  | ((with_reducible refine' k_yes ?hv ?_); (case hv => walk_at "ar"))
  | ((with_reducible refine' k_no ?hv ?_); (case hv => walk_at "ar"))
  | ((with_reducible refine' k_nyes ?hv ?_); (case hv => walk_at "ar"))
  | ((with_reducible refine' k_nno ?hv ?_); (case hv => walk_at "ar"))
  | with_reducible refine k_sfld ?_
  | ((with_reducible refine' k_ixL ?hv ?hw ?_); (case hv => walk_at "kn"); (case hw => rfl))
  | ((with_reducible refine' k_sumTu _ ?hv ?_); (case hv => walk_at "kn"))
  | ((with_reducible refine' k_powL ?ha ?_); (case ha => first | exact ⟨by omega, by omega, by omega⟩ | exact pow3_ok (by omega) (by omega)); (refine' fun _ _ => ?_))
  | ((with_reducible refine' k_setL ?ha ?hb ?_); (case ha => walk_at "kn"); (case hb => rfl); (refine' fun _ _ _ => ?_))
  | ((with_reducible refine' k_neNil ?ha ?hb ?_); (case ha => walk_at "kn"); (case hb => walk_at "kn"))
  | ((with_reducible refine' k_slA  ?_))
  | ((with_reducible refine' k_part  ?_))
  | ((with_reducible refine' k_noPart  ?_))
  | ((with_reducible refine' k_bx  ?_))
  | ((with_reducible refine' k_gsub  ?_))
  | ((with_reducible refine' k_isN_TO ?ha ?_); (case ha => walk_at "kn"))
  | ((with_reducible refine' u_draw ?ha ?hb ?_); (case ha => walk_at "kn"); (case hb => refine ⟨?_, ?_, ?_⟩ <;> omega); (refine' fun _ _ _ _ _ => ?_)))
local macro_rules | `(tactic| walk_at "go") => `(tactic| repeat (walk_at "st"))
local macro_rules | `(tactic| walk_at "run") => `(tactic| (dsimp only [cxK]; walk_at "go"))

section
variable {P : Program} {w : World} {K : PySem.W.Frag} {mg : Str → Option Value} {base : Heap}
local macro_rules | `(tactic| walk_at "st") => `(tactic| first
  | ((with_reducible refine' k_slA  ?_)))
local macro_rules | `(tactic| walk_at "st") => `(tactic| first
  | ((with_reducible refine' k_part  ?_)))
local macro_rules | `(tactic| walk_at "st") => `(tactic| first
  | ((with_reducible refine' k_noPart  ?_)))
local macro_rules | `(tactic| walk_at "st") => `(tactic| first
  | ((with_reducible refine' k_pI  ?_)))
local macro_rules | `(tactic| walk_at "st") => `(tactic| first
  | ((with_reducible refine' k_gsub  ?_)))
local macro_rules | `(tactic| walk_at "st") => `(tactic| first
  | ((with_reducible refine' u_draw ?ha ?hb ?_); (case ha => walk_at "kn"); (case hb => refine ⟨?_, ?_, ?_⟩ <;> omega); (refine' fun _ _ _ _ _ => ?_)))
local macro_rules | `(tactic| walk_at "st") => `(tactic| first
  | ((with_reducible refine' u_pick ?ha ?hb ?hc ?hd ?_); (case ha => walk_at "kn"); (case hb => walk_at "kn"); (case hc => (refine' Pen.ne ?ya ?yb; (case yb => with_reducible assumption); (case ya => walk_at "kn"))); (case hd => (simp only [List.length_cons, List.length_nil]; omega)); (refine' fun _ _ _ _ _ => ?_)))
def sp__law_pen (K : PySem.W.Frag) : Sp := PR (fun i : Addr × List Int => [.ref i.1]) (fun i H => SqL K H i.1 (i.2.map V.int)) fun i _ v H' => ∃ pen c, v = .ref pen ∧ Pen H' pen c 0
theorem ok__law_pen (T : TX K mg) : Ok P w K mg base 1 (He.ga K "_law_pen") ["_law_script"] (sp__law_pen K) := by
  obtain ⟨fd, F⟩ := T.F__law_pen
  refine ⟨fd, okN F sc__law_pen (by first | exact SV.len (fun _ => rfl) | exact PR.len (fun _ => rfl) | exact PM.len (fun _ => rfl) | exact SJ.len (fun _ => rfl) | exact spEqB_len) (fun cdv A outer s H vs Q E hr h => ?_), F.bindsN (fun _ _ _ _ _ _ us hl => match us, hl with | [_], _ => rfl), F.kp⟩
  obtain ⟨⟨a, ns⟩, rfl, hS, q⟩ := h
  dsimp only at hS q
  refine ⟨_, (pss_one (ps_ret (pe_lst (pa_cons (pe_callTy (c_list1) (by rfl) T.n_list (by decide +kernel) (pa_cons (pe_slice sl_list (pv 0) po_none (po_some pe_int)) pa_nil)) (pa_cons pe_int (pa_cons pe_int pa_nil)))))), ?_⟩
  walk_at "run"
  refine k_slL hS fun l1 H1 n1 e1 h1 => ?_
  walk_at "go"
  refine k_lstL1 h1 fun l2 H2 n2 e2 h2 => ?_
  walk_at "go"
  rename_i pen H3 n3 e3 h3
  obtain ⟨ms, hm⟩ := cutV_map (ns := ns) (lo := none) (hi := some 63)
  rw [hm] at h2
  exact q _ _ ((e1.trans e2).trans e3) ⟨_, l2, rfl, ms, 0, 0, h3, e3 _ _ h2, ne_of_none h2 n3, ⟨by omega, by omega⟩, by omega⟩
theorem u_pen {a : Addr} {ns : List Int} {H : Hp} {Q : VK} {E : XK} (hS : SqL K H a (ns.map V.int)) (q : ∀ pen c H', Ex H H' → Pen H' pen c 0 → Q (.ref pen) H') : sp__law_pen K [.ref a] H Q E :=
  ⟨(a, ns), rfl, hS, fun v H' e ⟨p, c, ev, h⟩ => ev ▸ q p c H' e h⟩
def sp__law_numbers (K : PySem.W.Frag) : Sp := PM (fun i : Addr × Addr × Int => [.ref i.1]) (fun i => i.1) (fun i H => Pen H i.1 i.2.1 i.2.2 ∧ 0 ≤ i.2.2 ∧ i.2.2 ≤ 800)
  fun i _ v H' => ∃ (a : Addr) (R : Rl) (t s r : Int), v = .ref a ∧ SqT K H' a [.int R.p, .int R.q, .int R.k, .int t, .int s, .int r] ∧ R.Ok ∧ R.turn = none ∧ TOk t s r ∧ Pen H' i.1 i.2.1 (i.2.2 + 8)
theorem ok__law_numbers (T : TX K mg) : Ok P w K mg base 5 (He.ga K "_law_numbers") ["_law_pen_here"] (sp__law_numbers K) := by
  obtain ⟨fd, F⟩ := T.F__law_numbers
  obtain ⟨_, G__law_draw, b__law_draw, k__law_draw⟩ := ok__law_draw (P := P) (w := w) (base := base) T
  obtain ⟨_, G__law_pick, b__law_pick, k__law_pick⟩ := ok__law_pick (P := P) (w := w) (base := base) T
  refine ⟨fd, okN F sc__law_numbers (by first | exact SV.len (fun _ => rfl) | exact PR.len (fun _ => rfl) | exact PM.len (fun _ => rfl) | exact SJ.len (fun _ => rfl) | exact spEqB_len) (fun cdv A outer s H vs Q E hr h => ?_), F.bindsN (fun _ _ _ _ _ _ us hl => match us, hl with | [_], _ => rfl), F.kp⟩
  obtain ⟨⟨pen, cc, n⟩, rfl, ⟨hP, n0, hn⟩, q⟩ := h
  dsimp only at hP n0 hn q
  refine ⟨_, (pss_cons (ps_set (i := 1) sc__law_numbers.nd rfl (Or.inl rfl) (pe_op op_add pe_int (pe_call G__law_draw (hr.mono (by decide)) (by rfl) T.g__law_draw k__law_draw b__law_draw .nil pass0 (pa_cons (pv 0) (pa_cons pe_int pa_nil)))))
      (pss_cons (ps_set (i := 2) sc__law_numbers.nd rfl (Or.inl rfl) (pe_callB (c_min2 rfl) (by rfl) T.n_min (by decide +kernel) (pa_cons pe_int (pa_cons (pe_op op_add (pv 1) (pe_call G__law_draw (hr.mono (by decide)) (by rfl) T.g__law_draw k__law_draw b__law_draw .nil pass0 (pa_cons (pv 0) (pa_cons (pe_op op_add pe_int (pe_op op_mul pe_int (pv 1))) pa_nil)))) pa_nil))))
      (pss_cons (ps_set (i := 3) sc__law_numbers.nd rfl (Or.inl rfl) (pe_call G__law_pick (hr.mono (by decide)) (by rfl) T.g__law_pick k__law_pick b__law_pick .nil pass0 (pa_cons (pv 0) (pa_cons (pe_lst (pa_cons pe_int (pa_cons pe_int (pa_cons pe_int (pa_cons (pe_op op_sub (pe_call G__law_draw (hr.mono (by decide)) (by rfl) T.g__law_draw k__law_draw b__law_draw .nil pass0 (pa_cons (pv 0) (pa_cons pe_int pa_nil))) pe_int) (pa_cons pe_int (pa_cons (pe_un un_neg pe_int) pa_nil))))))) pa_nil))))
      (pss_cons (ps_if (pt_cmpR op_lt (pe_op op_add (pv 2) (pv 3)) (pe_op op_mul pe_int (pv 1)) (nomark _)) (pss_one (ps_set (i := 3) sc__law_numbers.nd rfl (Or.inl rfl) (pe_op op_sub (pe_op op_mul pe_int (pv 1)) (pv 2)))) pss_nil)
      (pss_cons (ps_set (i := 4) sc__law_numbers.nd rfl (Or.inl rfl) (pe_op op_add pe_int (pe_call G__law_draw (hr.mono (by decide)) (by rfl) T.g__law_draw k__law_draw b__law_draw .nil pass0 (pa_cons (pv 0) (pa_cons pe_int pa_nil)))))
      (pss_cons (ps_set (i := 5) sc__law_numbers.nd rfl (Or.inl rfl) (pe_callB (c_min2 rfl) (by rfl) T.n_min (by decide +kernel) (pa_cons pe_int (pa_cons (pe_op op_add (pv 4) (pe_call G__law_draw (hr.mono (by decide)) (by rfl) T.g__law_draw k__law_draw b__law_draw .nil pass0 (pa_cons (pv 0) (pa_cons (pe_op op_add (pe_op op_mul pe_int (pv 4)) pe_int) pa_nil)))) pa_nil))))
      (pss_one (ps_ret (pe_tup (pa_cons (pv 2) (pa_cons (pv 1) (pa_cons (pe_callB (c_min2 rfl) (by rfl) T.n_min (by decide +kernel) (pa_cons pe_int (pa_cons (pv 3) pa_nil))) (pa_cons (pv 5) (pa_cons (pv 4) (pa_cons (pe_call G__law_pick (hr.mono (by decide)) (by rfl) T.g__law_pick k__law_pick b__law_pick .nil pass0 (pa_cons (pv 0) (pa_cons (pe_lst (pa_cons pe_int (pa_cons (pe_un un_neg pe_int) (pa_cons (pe_un un_neg (pv 4)) (pa_cons (pe_op op_sub (pe_call G__law_draw (hr.mono (by decide)) (by rfl) T.g__law_draw k__law_draw b__law_draw .nil pass0 (pa_cons (pv 0) (pa_cons pe_int pa_nil))) pe_int) pa_nil))))) pa_nil))) pa_nil))))))))))))))), ?_⟩
  walk_at "run"
  rename_i d1 H1 px1 hd1 hP1 d2 H2 px2 hd2 hP2 d3 H3 px3 hd3 hP3 l4 H4 hn4 e4 h4 v H5 px5 hv hP5
  obtain ⟨k, rfl, hk⟩ : ∃ k : Int, v = .int k ∧ (-6 ≤ k ∧ k ≤ 6) := by
    simp only [List.mem_cons, List.not_mem_nil, or_false] at hv
    rcases hv with rfl | rfl | rfl | rfl | rfl | rfl <;> exact ⟨_, rfl, by omega⟩
  walk_at "go"
  refine k_dec (fun g => ?_) (fun g => ?_)
  · walk_at "go"
    rename_i d6 H6 px6 hd6 hP6 d7 H7 px7 hd7 hP7 d8 H8 px8 hd8 hP8 l9 H9 hn9 e9 h9 v2 HA pxA hvA hPA tp HB hnB eB hB
    obtain ⟨r, rfl, hr⟩ : ∃ r : Int, v2 = .int r ∧ (-6 ≤ r ∧ r ≤ 6) := by
      simp only [List.mem_cons, List.not_mem_nil, or_false] at hvA
      rcases hvA with rfl | rfl | rfl | rfl <;> exact ⟨_, rfl, by omega⟩
    have px : PX pen H HB := by walk_at "px"
    skip
    refine q _ _ px ⟨_, ⟨_, _, _, none⟩, _, _, _, rfl, SqT.of hB, ok_num hd1 rfl hd2 rfl hk (by rw [if_pos g]), rfl, ⟨by omega, by omega, by omega, by omega, by omega, by omega⟩, ?_⟩
    have hPB := hPA.mono eB
    have en : n + 1 + 1 + 1 + 1 + 1 + 1 + 1 + 1 = n + 8 := by omega
    rw [← en]
    exact hPB
  · walk_at "go"
    rename_i d6 H6 px6 hd6 hP6 d7 H7 px7 hd7 hP7 d8 H8 px8 hd8 hP8 l9 H9 hn9 e9 h9 v2 HA pxA hvA hPA tp HB hnB eB hB
    obtain ⟨r, rfl, hr⟩ : ∃ r : Int, v2 = .int r ∧ (-6 ≤ r ∧ r ≤ 6) := by
      simp only [List.mem_cons, List.not_mem_nil, or_false] at hvA
      rcases hvA with rfl | rfl | rfl | rfl <;> exact ⟨_, rfl, by omega⟩
    have px : PX pen H HB := by walk_at "px"
    skip
    refine q _ _ px ⟨_, ⟨_, _, _, none⟩, _, _, _, rfl, SqT.of hB, ok_num hd1 rfl hd2 rfl hk (by rw [if_neg g]), rfl, ⟨by omega, by omega, by omega, by omega, by omega, by omega⟩, ?_⟩
    have hPB := hPA.mono eB
    have en : n + 1 + 1 + 1 + 1 + 1 + 1 + 1 + 1 = n + 8 := by omega
    rw [← en]
    exact hPB

end
end M
namespace M
open PySem PySem.Spec PyProof.Rows L2 Evl
theorem row_cut {R : Rl} {xs : List Int} (h : RowOf R xs) : cutV (xs.map V.int) none (some 3) = [.int R.p, .int R.q, .int R.k] ∧ (HT.sIx (xs.map V.int).length 0 none = 0 ∧ HT.sIx (xs.map V.int).length (xs.map V.int).length (some 3) = (xs.map V.int).length → xs.map V.int = [.int R.p, .int R.q, .int R.k]) := by
  rcases h with ⟨_, rfl⟩ | ⟨t, s, r, _, rfl⟩
  · exact ⟨rfl, fun _ => rfl⟩
  · refine ⟨rfl, fun h => ?_⟩
    exact absurd h.2 (show ¬ ((3 : Nat) = 6) by decide)
theorem casesOf_w {R : Rl} {b : Br} (hT : R.turn.isSome = true) : (none, some b) ∈ casesOf R := by
  have : b ∈ twiceL := by cases b <;> decide
  unfold casesOf
  rw [if_pos hT]
  exact List.mem_append_right _ (List.mem_map.mpr ⟨b, this, rfl⟩)
theorem casesOf_o {R : Rl} {b : Br} (hT : R.turn.isSome = true) (hb : b ∈ onceL) : (some b, none) ∈ casesOf R := by
  unfold casesOf
  rw [if_pos hT]
  exact List.mem_append_left _ (List.mem_map.mpr ⟨b, hb, rfl⟩)
theorem nums_parts (three : Bool) (l e c h : Int) : ∃ mid : List Int, atI ((numsL three l e c h).map V.int) 0 = some (.int l) ∧ cutV ((numsL three l e c h).map V.int) (some 1) (some (-1)) = mid.map V.int ∧
    ¬ (HT.sIx ((numsL three l e c h).map V.int).length 0 (some 1) = 0 ∧ HT.sIx ((numsL three l e c h).map V.int).length ((numsL three l e c h).map V.int).length (some (-1)) = ((numsL three l e c h).map V.int).length) ∧
    atI ((numsL three l e c h).map V.int) (-1) = some (.int (h - c)) ∧ mid.sum = c := by
  cases three with
  | true => exact ⟨[c], rfl, rfl, fun z => absurd z.1 (show ¬ ((1 : Nat) = 0) by decide), rfl, by simp⟩
  | false => exact ⟨[e, c - e], rfl, rfl, fun z => absurd z.1 (show ¬ ((1 : Nat) = 0) by decide), rfl, by simp; omega⟩
end M
namespace M
open PySem PySem.Spec PyProof.Rows L2 Evl
local macro_rules | `(tactic| walk_at "ar") => `(tactic| first | exact rfl | omega | (simp only [List.length_map, List.length_cons, List.length_nil] at *; omega) | decide)
local macro_rules | `(tactic| walk_at "ex") => `(tactic| first | with_reducible assumption | exact Ex.refl _ | (refine' Ex.trans ?a ?b; (case b => with_reducible assumption); (case a => walk_at "ex")) | (refine' Ex.mu2 ?a ?n ?b; (case b => with_reducible assumption); (case n => with_reducible assumption); (case a => walk_at "ex")))
local macro_rules | `(tactic| walk_at "exn") => `(tactic| first | with_reducible assumption | exact ExN.refl _ | (refine' ExN.trans ?a (ExN.of ?b); (case b => with_reducible assumption); (case a => walk_at "exn")) | (refine' ExN.trans ?a ?b; (case b => with_reducible assumption); (case a => walk_at "exn")))
local macro_rules | `(tactic| walk_at "px") => `(tactic| first | with_reducible assumption | exact PX.refl _ _ | (refine' PX.of ?a; (case a => walk_at "ex0")) | (refine' PX.trans ?a (PX.of ?b); (case b => with_reducible assumption); (case a => walk_at "px")) | (refine' PX.trans ?a ?b; (case b => with_reducible assumption); (case a => walk_at "px")))
local macro_rules | `(tactic| walk_at "ex0") => `(tactic| with_reducible assumption)
local macro_rules | `(tactic| walk_at "ln") => `(tactic| first | exact rfl | omega | (simp only [scaleF, addF, List.length_map, List.length_zip, List.length_cons, List.length_nil] <;> omega))
local macro_rules | `(tactic| walk_at "kn") => `(tactic| first
  | with_reducible assumption
  | ((with_reducible refine' Fld.mono ?e ?m); (case e => with_reducible assumption); (case m => walk_at "kn"))
  | ((with_reducible refine' Ins.mono ?e ?m); (case e => with_reducible assumption); (case m => walk_at "kn"))
  | ((with_reducible refine' SqT.of ?m); (case m => walk_at "kn"))
  | ((with_reducible refine' SqL.of ?m); (case m => walk_at "kn"))
  | with_reducible exact kn_DEEDS (by assumption)
  | with_reducible exact kn_INNER (by assumption)
  | with_reducible exact kn_ONCE (by assumption)
  | with_reducible exact kn_TWICE (by assumption)
  | ((with_reducible refine' RB.mono ?e ?m); (case e => with_reducible assumption); (case m => walk_at "kn"))
  | ((with_reducible refine' RuleI.mono ?e ?m); (case e => with_reducible assumption); (case m => walk_at "kn"))
  | ((with_reducible refine' TestAt.mono ?e ?m); (case e => with_reducible assumption); (case m => walk_at "kn"))
  | ((with_reducible refine' TO_mono ?e ?m); (case e => with_reducible assumption); (case m => walk_at "kn"))
  | ((with_reducible refine' CaseAt.mono ?e ?m); (case e => with_reducible assumption); (case m => walk_at "kn"))
  | ((with_reducible refine' LT.fair ?e ?m); (case e => with_reducible assumption); (case m => with_reducible assumption))
  | ((with_reducible refine' LT.turn ?e ?m); (case e => with_reducible assumption); (case m => with_reducible assumption))
  | ((with_reducible refine' FormsB.mono ?e ?m); (case e => with_reducible assumption); (case m => walk_at "kn"))
  | ((with_reducible refine' tl_mono ?e ?m); (case e => with_reducible assumption); (case m => walk_at "kn"))
  | ((with_reducible refine' ExN.t ?e ?m); (case e => with_reducible assumption); (case m => walk_at "kn"))
  | ((with_reducible refine' ExN.fld ?e ?m); (case e => with_reducible assumption); (case m => walk_at "kn"))
  | ((with_reducible refine' ExN.ins ?e ?m); (case e => with_reducible assumption); (case m => walk_at "kn"))
  | ((with_reducible refine' RuleI.monoN ?e ?m); (case e => with_reducible assumption); (case m => walk_at "kn"))
  | ((with_reducible refine' TestAt.monoN ?e ?m); (case e => with_reducible assumption); (case m => walk_at "kn"))
  | ((with_reducible refine' CaseAt.monoN ?e ?m); (case e => with_reducible assumption); (case m => walk_at "kn"))
  | ((with_reducible refine' FormsB.monoN ?e ?m); (case e => with_reducible assumption); (case m => walk_at "kn"))
  | ((with_reducible refine' tl_monoN ?e ?m); (case e => with_reducible assumption); (case m => walk_at "kn"))
  | ((with_reducible refine' LT.mono ?e ?m); (case e => with_reducible assumption); (case m => walk_at "kn"))
  | ((with_reducible refine' PairI.mono ?e ?m); (case e => with_reducible assumption); (case m => walk_at "kn"))
  | ((with_reducible refine' WrongAt.mono ?e ?m); (case e => with_reducible assumption); (case m => walk_at "kn"))
  | ((with_reducible refine' Pen.mono ?e ?m); (case e => with_reducible assumption); (case m => walk_at "kn"))
  | ((with_reducible refine' PX.t ?e ?m); (case e => with_reducible assumption); (case m => walk_at "kn"))
  | ((with_reducible refine' PX.rule ?e ?m); (case e => with_reducible assumption); (case m => walk_at "kn"))
  | ((with_reducible refine' ex_t ?e ?m); (case e => with_reducible assumption); (case m => walk_at "kn"))
  | ((with_reducible refine' ex_l ?e ?m); (case e => with_reducible assumption); (case m => walk_at "kn"))
  | ((with_reducible refine' Ex.at ?e ?m); (case e => with_reducible assumption); (case m => walk_at "kn"))
  | ((with_reducible refine' Mu.t ?e ?n ?m); (case e => with_reducible assumption); (case n => with_reducible assumption); (case m => walk_at "kn"))
  | ((with_reducible refine' Mu.lst ?e ?n ?m); (case e => with_reducible assumption); (case n => with_reducible assumption); (case m => walk_at "kn"))
  | ((with_reducible refine' Mu.fld ?e ?n ?m); (case e => with_reducible assumption); (case n => with_reducible assumption); (case m => walk_at "kn")))
local macro_rules | `(tactic| walk_at "st") => `(tactic| first
  | with_reducible refine k_seq ?_
  | with_reducible refine k_asg ?_
  | with_reducible refine k_ret ?_
  | with_reducible refine k_drop ?_
  | with_reducible refine k_ifS ?_
  | with_reducible refine k_name ?_
  | with_reducible refine k_next ?_
  | ((with_reducible refine' k_var ?hv ?_); case hv => exact rfl)
  | with_reducible refine k_c ?_
  | with_reducible refine k_fld ?_
  | ((with_reducible refine' k_fld2 ?hv ?_); case hv => walk_at "kn")
  | with_reducible refine k_op ?_
  | with_reducible refine k_un ?_
  | with_reducible refine k_add ?_
  | with_reducible refine k_sub ?_
  | with_reducible refine k_neg ?_
  | ((with_reducible refine' k_mul ?hv ?_); case hv => first | (left; constructor <;> omega) | (right; constructor <;> omega))
  | ((with_reducible refine' k_fdiv ?hv ?_); case hv => constructor <;> omega)
  | ((with_reducible refine' k_mod ?hv ?_); case hv => omega)
  | with_reducible refine k_lt ?_
  | with_reducible refine k_le ?_
  | with_reducible refine k_gt ?_
  | with_reducible refine k_ge ?_
  | with_reducible refine k_eqI ?_
  | with_reducible refine k_eqT ?_
  | with_reducible refine k_neI ?_
  | with_reducible refine k_isN_int ?_
  | with_reducible refine k_isN_ref ?_
  | with_reducible refine k_isN_non ?_
  | with_reducible refine k_notN_int ?_
  | with_reducible refine k_notN_ref ?_
  | with_reducible refine k_notN_non ?_
  | with_reducible refine k_test ?_
  | with_reducible refine k_B ?_
  | with_reducible refine k_bx ?_
  | with_reducible refine k_not ?_
  | with_reducible refine k_notV ?_
  | with_reducible refine k_and ?_
  | with_reducible refine k_or ?_
  | with_reducible refine k_andV ?_
  | with_reducible refine k_orV ?_
  | with_reducible refine k_if ?_
  | with_reducible refine k_chain ?_
  | with_reducible refine iteT ?_
  | with_reducible refine iteF ?_
  | with_reducible refine k_nil ?_
  | with_reducible refine k_cons ?_
  | with_reducible refine k_tup ?_
  | with_reducible refine k_lst ?_
  | with_reducible refine k_call ?_
  | with_reducible refine k_meth ?_
  | ((with_reducible refine' k_meth2 ?hv ?_); case hv => walk_at "kn")
  | with_reducible refine k_make ?_
  | with_reducible refine k_cb ?_
  | with_reducible refine k_min2 ?_
  | with_reducible refine k_max2 ?_
  | with_reducible refine k_int1 ?_
  | with_reducible refine k_int1b ?_
  | with_reducible refine k_abs1 ?_
  | ((with_reducible refine' k_gtup ?hv ?hw ?_); (case hv => walk_at "kn"); (case hw => rfl))
  | with_reducible refine k_gcons ?_
  | with_reducible refine k_gnil ?_
  | with_reducible refine k_isi_ii ?_
  | with_reducible refine k_isi_ib ?_
  | with_reducible refine k_isi_ss ?_
  | ((with_reducible refine' k_isi_tt ?hv ?_); case hv => walk_at "kn")
  | with_reducible refine iteNT ?_
  | with_reducible refine iteNF ?_
  | with_reducible refine k_cval ?_
  | ((with_reducible refine' k_cval2 ?hv ?_); case hv => exact kn_most (by assumption))
  | with_reducible refine k_lc ?_
  | with_reducible refine k_iT ?_
  | ((with_reducible refine' k_iT2 ?hv ?_); case hv => walk_at "kn")
  | with_reducible refine k_iL ?_
  | ((with_reducible refine' k_iL2 ?hv ?_); case hv => walk_at "kn")
  | with_reducible refine k_i1 ?_
  | ((with_reducible refine' k_i1a ?hv ?_); case hv => constructor <;> omega)
  | with_reducible refine k_i2 ?_
  | ((with_reducible refine' k_i2a ?hv ?_); case hv => refine ⟨?_, ?_, ?_, ?_⟩ <;> omega)
  | with_reducible refine k_iZ ?_
  | ((with_reducible refine' k_iZa ?hv ?hw ?_); (case hv => walk_at "kn"); (case hw => walk_at "kn"))
  | with_reducible refine k_iN ?_
  | ((with_reducible refine' k_lenT ?hv ?_); case hv => walk_at "kn")
  | ((with_reducible refine' k_lenL ?hv ?_); case hv => walk_at "kn")
  | ((with_reducible refine' k_ixT ?hv ?hw ?_); (case hv => walk_at "kn"); (case hw => rfl))
  | ((with_reducible refine' k_tupL ?hv ?_); (case hv => walk_at "kn"); (refine' fun _ _ _ _ _ => ?_))
  | ((with_reducible refine' k_tupT ?hv ?_); (case hv => walk_at "kn"))
  | ((with_reducible refine' k_new ?hv ?_); (case hv => (simp only [List.length_cons, List.length_nil]; exact sze _ (by omega))); (refine' fun _ _ _ _ _ => ?_))
  | ((with_reducible refine' k_isiW ?hT ?hv ?_); (case hT => assumption); (case hv => walk_at "kn"))
  | ((with_reducible refine' k_isiT ?hT ?hv ?_); (case hT => assumption); (case hv => walk_at "kn"))
  | ((with_reducible refine' k_isiC ?hT ?hv ?_); (case hT => assumption); (case hv => walk_at "kn"))
  | ((with_reducible refine' k_isiLT ?hv ?hw ?_); (case hv => walk_at "kn"); (case hw => walk_at "kn"))
  | ((with_reducible refine' k_isN_TO ?hv ?_); (case hv => walk_at "kn"))
  | ((with_reducible refine' k_notN_TO ?hv ?_); (case hv => walk_at "kn"))
  | ((with_reducible refine' k_notInDeeds ?hv ?_); (case hv => walk_at "kn"))
  | with_reducible refine k_eqPut ?_
  | ((refine' k_eqB .inn ?hv ?hw ?hx ?_); (case hv => walk_at "kn"); (case hw => walk_at "kn"); (case hx => rfl))
  | ((refine' k_eqB .lf ?hv ?hw ?hx ?_); (case hv => walk_at "kn"); (case hw => walk_at "kn"); (case hx => rfl))
  | ((refine' k_eqB .ls ?hv ?hw ?hx ?_); (case hv => walk_at "kn"); (case hw => walk_at "kn"); (case hx => rfl))
  | ((refine' k_eqB .ff ?hv ?hw ?hx ?_); (case hv => walk_at "kn"); (case hw => walk_at "kn"); (case hx => rfl))
  | ((refine' k_eqB .fs ?hv ?hw ?hx ?_); (case hv => walk_at "kn"); (case hw => walk_at "kn"); (case hx => rfl))
  | ((refine' k_eqB .tf ?hv ?hw ?hx ?_); (case hv => walk_at "kn"); (case hw => walk_at "kn"); (case hx => rfl))
  | ((with_reducible refine' k_yes ?hv ?_); (case hv => walk_at "ar"))
  | ((with_reducible refine' k_no ?hv ?_); (case hv => walk_at "ar"))
  | ((with_reducible refine' k_nyes ?hv ?_); (case hv => walk_at "ar"))
  | ((with_reducible refine' k_nno ?hv ?_); (case hv => walk_at "ar"))
  | with_reducible refine k_sfld ?_
  | ((with_reducible refine' k_ixL ?hv ?hw ?_); (case hv => walk_at "kn"); (case hw => rfl))
  | ((with_reducible refine' k_sumTu _ ?hv ?_); (case hv => walk_at "kn"))
  | ((with_reducible refine' k_powL ?ha ?_); (case ha => first | exact ⟨by omega, by omega, by omega⟩ | exact pow3_ok (by omega) (by omega)); (refine' fun _ _ => ?_))
  | ((with_reducible refine' k_setL ?ha ?hb ?_); (case ha => walk_at "kn"); (case hb => rfl); (refine' fun _ _ _ => ?_))
  | ((with_reducible refine' k_neNil ?ha ?hb ?_); (case ha => walk_at "kn"); (case hb => walk_at "kn"))
  | ((with_reducible refine' k_slA  ?_))
  | ((with_reducible refine' k_part  ?_))
  | ((with_reducible refine' k_noPart  ?_))
  | ((with_reducible refine' k_bx  ?_))
  | ((with_reducible refine' k_gsub  ?_))
  | ((with_reducible refine' k_isN_TO ?ha ?_); (case ha => walk_at "kn"))
  | ((with_reducible refine' u_draw ?ha ?hb ?_); (case ha => walk_at "kn"); (case hb => refine ⟨?_, ?_, ?_⟩ <;> omega); (refine' fun _ _ _ _ _ => ?_))
  | ((with_reducible refine' k_slA  ?_))
  | ((with_reducible refine' k_part  ?_))
  | ((with_reducible refine' k_noPart  ?_))
  | ((with_reducible refine' k_pI  ?_))
  | ((with_reducible refine' k_gsub  ?_))
  | ((with_reducible refine' u_draw ?ha ?hb ?_); (case ha => walk_at "kn"); (case hb => refine ⟨?_, ?_, ?_⟩ <;> omega); (refine' fun _ _ _ _ _ => ?_))
  | ((with_reducible refine' u_pick ?ha ?hb ?hc ?hd ?_); (case ha => walk_at "kn"); (case hb => walk_at "kn"); (case hc => (refine' Pen.ne ?ya ?yb; (case yb => with_reducible assumption); (case ya => walk_at "kn"))); (case hd => (simp only [List.length_cons, List.length_nil]; omega)); (refine' fun _ _ _ _ _ => ?_)))
local macro_rules | `(tactic| walk_at "go") => `(tactic| repeat (walk_at "st"))
local macro_rules | `(tactic| walk_at "run") => `(tactic| (dsimp only [cxK]; walk_at "go"))

section
variable {P : Program} {w : World} {K : PySem.W.Frag} {mg : Str → Option Value} {base : Heap}
local macro_rules | `(tactic| walk_at "st") => `(tactic| first
  | ((with_reducible refine' k_slA  ?_)))
local macro_rules | `(tactic| walk_at "st") => `(tactic| first
  | ((with_reducible refine' k_part  ?_)))
local macro_rules | `(tactic| walk_at "st") => `(tactic| first
  | ((with_reducible refine' k_noPart  ?_)))
local macro_rules | `(tactic| walk_at "st") => `(tactic| first
  | ((with_reducible refine' k_pI  ?_)))
local macro_rules | `(tactic| walk_at "st") => `(tactic| first
  | ((with_reducible refine' k_makeK  ?_)))
theorem u_mk_Try {F : Addr → Hp → Prop} {H : Hp} {E : XK} {tp : Addr} {R : Rl} (hT : R.turn = none) (ok : R.Ok) (h1 : SqT K H tp [.int R.p, .int R.q]) (k : ∀ x H', Ex H H' → RuleI K H' x R → F x H') :
    ∀ x dx, H x = none → H dx = none → dx ≠ x → sp_TryRule_init K (.ref x :: [.ref tp, .int R.k]) (upd (upd H dx (.own x)) x (.ins (He.ga K "TryRule") dx [])) (fun v H2 => v = .non ∧ F x H2) E :=
  SJ.make (tp, R) (fun H' e => ⟨hT, ok, ex_t e h1⟩) fun x H' e _ t => k x H' e t
theorem u_mk_Turn {F : Addr → Hp → Prop} {H : Hp} {E : XK} {tp tt : Addr} {R : Rl} {t s r : Int} (hT : R.turn = some (t, s, r)) (ok : R.Ok) (h1 : SqT K H tp [.int R.p, .int R.q]) (h2 : SqT K H tt [.int t, .int s]) (k : ∀ x H', Ex H H' → RuleI K H' x R → F x H') :
    ∀ x dx, H x = none → H dx = none → dx ≠ x → sp_TurnRule_init K ((fun vs zs => vs ++ zs) (.ref x :: [.ref tp, .int R.k]) [.ref tt, .int r]) (upd (upd H dx (.own x)) x (.ins (He.ga K "TurnRule") dx [])) (fun v H2 => v = .non ∧ F x H2) E :=
  SJ.make (tp, tt, R, t, s, r) (fun H' e => ⟨hT, ok, ex_t e h1, ex_t e h2⟩) fun x H' e _ t => k x H' e t
def sp__law_rule (K : PySem.W.Frag) : Sp := PR (fun i : Addr × Rl × List Int => [.ref i.1]) (fun i H => SqT K H i.1 (i.2.2.map V.int) ∧ i.2.1.Ok ∧ RowOf i.2.1 i.2.2) fun i _ v H' => ∃ a, v = .ref a ∧ RuleI K H' a i.2.1
theorem ok__law_rule (T : TX K mg) (T2 : TR P K) : Ok P w K mg base 12 (He.ga K "_law_rule") ["_law_some"] (sp__law_rule K) := by
  obtain ⟨fd, F⟩ := T.F__law_rule
  obtain ⟨_, G_TryRule_init, b_TryRule_init, k_TryRule_init⟩ := ok_TryRule_init (P := P) (w := w) (base := base) T T2
  obtain ⟨_, G_TurnRule_init, b_TurnRule_init⟩ := ok_TurnRule_init (P := P) (w := w) (base := base) T T2
  refine ⟨fd, okN F sc__law_rule (PR.len (fun _ => rfl)) (fun cdv A outer s H vs Q E hr h => ?_), F.bindsN (fun _ _ _ _ _ _ us hl => match us, hl with | [_], _ => rfl), F.kp⟩
  obtain ⟨⟨a, R, xs⟩, rfl, ⟨hS, ok, hx⟩, q⟩ := h
  dsimp only at hS ok hx q
  refine ⟨_, (pss_cons (ps_asg (pe_slice sl_tupA (pv 0) po_none (po_some pe_int)) (pg_tupK K 3 rfl rfl (pgs_cons (pg_name (i := 1) sc__law_rule.nd rfl (by first | exact Or.inl rfl | exact Or.inr rfl)) (pgs_cons (pg_name (i := 2) sc__law_rule.nd rfl (by first | exact Or.inl rfl | exact Or.inr rfl)) (pgs_cons (pg_name (i := 3) sc__law_rule.nd rfl (by first | exact Or.inl rfl | exact Or.inr rfl)) pgs_nil))) rfl rfl))
      (pss_cons (ps_if (pt_cmpR op_eq (pe_callB (c_lenS) (by rfl) T.n_len (by decide +kernel) (pa_cons (pv 0) pa_nil)) pe_int (nomark _)) (pss_one (ps_ret (pe_make T.mk_TryRule G_TryRule_init (hr.mono (by decide)) (by rfl) T.g_TryRule b_TryRule_init .nil pass0 (pa_cons (pe_tup (pa_cons (pv 1) (pa_cons (pv 2) pa_nil))) (pa_cons (pv 3) pa_nil))))) pss_nil)
      (pss_one (ps_ret (pe_makeK T.mk_TurnRule G_TurnRule_init (hr.mono (by decide)) (by rfl) T.g_TurnRule b_TurnRule_init pass0 (pa_cons (pe_tup (pa_cons (pv 1) (pa_cons (pv 2) pa_nil))) (pa_cons (pv 3) pa_nil)) (pk_cons (pe_tup (pa_cons (pe_ix ix_tup (pv 0) pe_int (fun _ _ => rfl)) (pa_cons (pe_ix ix_tup (pv 0) pe_int (fun _ _ => rfl)) pa_nil))) (pk_cons (pe_ix ix_tup (pv 0) pe_int (fun _ _ => rfl)) pk_nil))))))), ?_⟩
  walk_at "run"
  refine k_slT hS (row_cut hx).1 (row_cut hx).2 fun l H1 e1 h1 => ?_
  refine k_gtup h1 rfl ?_
  walk_at "go"
  rcases hx with ⟨hT, rfl⟩ | ⟨t, s, r, hT, rfl⟩
  · refine k_yes rfl ?_
    walk_at "go"
    rename_i tp H2 n2 e2 h2
    refine u_mk_Try hT ok (SqT.of h2) fun x H3 e3 hR => ?_
    exact q _ _ ((e1.trans e2).trans e3) ⟨_, rfl, hR⟩
  · refine k_no (by simp) ?_
    have hS : SqT K H a [.int R.p, .int R.q, .int R.k, .int t, .int s, .int r] := hS
    walk_at "go"
    refine ⟨rfl, rfl, u_mk_Turn hT ok (by walk_at "kn") (by walk_at "kn") fun x H3 e3 hR => ?_⟩
    refine q _ _ ?_ ⟨_, rfl, hR⟩
    walk_at "ex"
theorem u_rule {a : Addr} {R : Rl} {xs : List Int} {H : Hp} {Q : VK} {E : XK} (hS : SqT K H a (xs.map V.int)) (ok : R.Ok) (hx : RowOf R xs) (q : ∀ a H', Ex H H' → RuleI K H' a R → Q (.ref a) H') : sp__law_rule K [.ref a] H Q E :=
  ⟨(a, R, xs), rfl, ⟨hS, ok, hx⟩, fun v H' e ⟨x, ev, h⟩ => ev ▸ q x H' e h⟩
/-! _law_carried -/
theorem u_numbers_break {r a n : Addr} {R : Rl} {pt : Bool} {o w' : Option Br} {xs : List Int} {H : Hp} {Q : VK} {E : XK} (hR : RuleI K H r R) (hC : CaseAt K H a pt o w') (hm : (o, w') ∈ casesOf R) (hS : SqT K H n (xs.map V.int)) (hl : xs.length = if has3 w' then 3 else 4)
    (q : ∀ H', Ex H H' → Q (.bl (holds (testsT R pt o w') xs)) H') : sp_numbers_break K [.ref r, .ref a, .ref n] H Q E :=
  ⟨(r, a, n, R, pt, o, w', xs), rfl, ⟨hR, hC, hm, hS, hl⟩, q⟩
local macro_rules | `(tactic| walk_at "st") => `(tactic| first
  | ((with_reducible refine' u_mk_Case ?ha ?hb ?_); (case ha => walk_at "kt"); (case hb => walk_at "kt"); (refine' fun _ _ _ _ => ?_)))
local macro_rules | `(tactic| walk_at "kt") => `(tactic| first | with_reducible exact TO.none1 | walk_at "kn")
def sp__law_carried (K : PySem.W.Frag) : Sp := SV (fun i : Addr × Addr × Rl × Bool × Br × Br × Int × Int × Int × Int => [.ref i.1, .ref i.2.1])
  (fun ⟨r, a, R, pt, b, b', l, e, c, hh⟩ H => RuleI K H r R ∧ R.turn.isSome = true ∧ WrongAt K H a pt (some b) (some b') (numsL (has3 (some b')) l e c hh) ∧ b ∈ onceL ∧
    (holds (testsT R pt none (some b')) (numsL (has3 (some b')) l e c hh) = true ∨ holds (testsT R pt (some b) none) [l, c, hh - c] = true)) fun _ => .bl true
theorem ok__law_carried (T : TX K mg) : Ok P w K mg base 13 (He.ga K "_law_carried") ["_law_rule_so", "_law_told"] (sp__law_carried K) := by
  obtain ⟨fd, F⟩ := T.F__law_carried
  obtain ⟨_, G_numbers_break, b_numbers_break, k_numbers_break⟩ := ok_numbers_break (P := P) (w := w) (base := base) T
  obtain ⟨_, G_Case_init, b_Case_init, k_Case_init⟩ := ok_Case_init (P := P) (w := w) (base := base) T
  refine ⟨fd, okN F sc__law_carried (by first | exact SV.len (fun _ => rfl) | exact PR.len (fun _ => rfl) | exact PM.len (fun _ => rfl) | exact SJ.len (fun _ => rfl) | exact spEqB_len) (fun cdv A outer s H vs Q E hr h => ?_), F.bindsN (fun _ _ _ _ _ _ us hl => match us, hl with | [_, _], _ => rfl), F.kp⟩
  obtain ⟨⟨r, a, R, pt, b, b', l, e, c, hh⟩, rfl, ⟨hR, hT, hW, hb, hh2⟩, q⟩ := h
  dsimp only at q
  have wd := hW.d
  obtain ⟨vo, wo, wot⟩ := hW.o
  obtain ⟨vw, ww, wwt⟩ := hW.w
  obtain ⟨tn, wn, wnt⟩ := hW.n
  have m1 : (none, some b') ∈ casesOf R := casesOf_w hT
  have m2 : (some b, none) ∈ casesOf R := casesOf_o hT hb
  refine ⟨_, (pss_cons (ps_set (i := 2) sc__law_carried.nd rfl (Or.inl rfl) (pe_fld (pv 1) rfl))
      (pss_cons (ps_if (pt_val (pe_call G_numbers_break (hr.mono (by decide)) (by rfl) T.g_numbers_break k_numbers_break b_numbers_break .nil pass0 (pa_cons (pv 0) (pa_cons (pe_make T.mk_Case G_Case_init (hr.mono (by decide)) (by rfl) T.g_Case b_Case_init .nil pass0 (pa_cons (pe_fld (pv 1) rfl) (pa_cons pe_non (pa_cons (pe_fld (pv 1) rfl) pa_nil)))) (pa_cons (pv 2) pa_nil))))) (pss_one (ps_ret pe_bl)) pss_nil)
      (pss_cons (ps_set (i := 3) sc__law_carried.nd rfl (Or.inl rfl) (pe_tup (pa_cons (pe_ix ix_tup (pv 2) pe_int (fun _ _ => rfl)) (pa_cons (pe_callB (c_sumTK K rfl rfl) (by rfl) T.n_sum (by decide +kernel) (pa_cons (pe_slice sl_tupA (pv 2) (po_some pe_int) (po_some (pe_un un_neg pe_int))) pa_nil)) (pa_cons (pe_ix ix_tup (pv 2) (pe_un un_neg pe_int) (fun _ _ => rfl)) pa_nil)))))
      (pss_one (ps_ret (pe_call G_numbers_break (hr.mono (by decide)) (by rfl) T.g_numbers_break k_numbers_break b_numbers_break .nil pass0 (pa_cons (pv 0) (pa_cons (pe_make T.mk_Case G_Case_init (hr.mono (by decide)) (by rfl) T.g_Case b_Case_init .nil pass0 (pa_cons (pe_fld (pv 1) rfl) (pa_cons (pe_fld (pv 1) rfl) (pa_cons pe_non pa_nil)))) (pa_cons (pv 3) pa_nil))))))))), ?_⟩
  walk_at "run"
  rename_i xc H1 e1 hC
  refine u_numbers_break (by walk_at "kn") hC m1 (by walk_at "kn") (by cases has3 (some b') <;> rfl) fun H2 e2 => ?_
  walk_at "go"
  cases hl : holds (testsT R pt none (some b')) (numsL (has3 (some b')) l e c hh) with
  | true =>
    refine iteT ?_
    walk_at "go"
    refine q _ ?_
    walk_at "ex"
  | false =>
    have hf : holds (testsT R pt (some b) none) [l, c, hh - c] = true := hh2.resolve_left (by rw [hl]; exact Bool.false_ne_true)
    refine iteF ?_
    walk_at "go"
    obtain ⟨mid, p0, p1, p2, p3, p4⟩ := nums_parts (has3 (some b')) l e c hh
    refine k_ixT (by walk_at "kn") p0 ?_
    walk_at "go"
    refine k_slT (by walk_at "kn") p1 (fun z => absurd z p2) fun l3 H3 e3 h3 => ?_
    walk_at "go"
    rw [p4]
    refine k_ixT (by walk_at "kn") p3 ?_
    walk_at "go"
    refine u_numbers_break (o := some b) (w' := none) (xs := [l, c, hh - c]) (by walk_at "kn") (by walk_at "kn") m2 (by show SqT K _ _ [V.int l, V.int c, V.int (hh - c)]; walk_at "kn") rfl fun H4 e4 => ?_
    rw [hf]
    refine q _ ?_
    walk_at "ex"

end
end M
namespace M
open PySem PySem.Spec PyProof.Rows L2 Evl
theorem casesOf_try {R : Rl} {o w : Option Br} (hT : R.turn = none) (h : (o, w) ∈ casesOf R) : ∃ b b', o = some b ∧ w = some b' ∧ b ∈ onceL := by
  unfold casesOf at h
  rw [hT, if_neg (by simp)] at h
  simp only [List.mem_flatMap, List.mem_map, Prod.mk.injEq] at h
  obtain ⟨c, hc, d, hd, e1, e2⟩ := h
  exact ⟨c, d, e1.symm, e2.symm, hc⟩
/-- a row of a turn -/
def RwT (K : PySem.W.Frag) (j : Int × Int × Int) (y : V) (H : Hp) : Prop := TI K [j.1, j.2.1, j.2.2] y H ∧ TOk j.1 j.2.1 j.2.2
theorem RwT.mono {K : PySem.W.Frag} {j : Int × Int × Int} {y : V} {H H' : Hp} (e : ExN H H') (h : RwT K j y H) : RwT K j y H' := ⟨h.1.mono e, h.2⟩
/-- the first three -/
def C3 (R : Rl) (xs : List Int) : Prop := cutV (xs.map V.int) none (some 3) = [.int R.p, .int R.q, .int R.k] ∧ (HT.sIx (xs.map V.int).length 0 none = 0 ∧ HT.sIx (xs.map V.int).length (xs.map V.int).length (some 3) = (xs.map V.int).length → xs.map V.int = [.int R.p, .int R.q, .int R.k])
theorem c3_three (R : Rl) : C3 R [R.p, R.q, R.k] := ⟨rfl, fun _ => rfl⟩
theorem c3_six (R : Rl) (t s r : Int) : C3 R [R.p, R.q, R.k, t, s, r] := ⟨rfl, fun h => absurd h.2 (show ¬ ((3 : Nat) = 6) by decide)⟩
theorem isN_ref {a : Addr} {H : Hp} {Q : VK} (q : Q (.bl false) H) : rIsN (.ref a) .non H Q := ⟨rfl, q⟩
end M
namespace M
open PySem PySem.Spec PyProof.Rows L2 Evl
local macro_rules | `(tactic| walk_at "ar") => `(tactic| first | exact rfl | omega | (simp only [List.length_map, List.length_cons, List.length_nil] at *; omega) | decide)
local macro_rules | `(tactic| walk_at "ex") => `(tactic| first | with_reducible assumption | exact Ex.refl _ | (refine' Ex.trans ?a ?b; (case b => with_reducible assumption); (case a => walk_at "ex")) | (refine' Ex.mu2 ?a ?n ?b; (case b => with_reducible assumption); (case n => with_reducible assumption); (case a => walk_at "ex")))
local macro_rules | `(tactic| walk_at "exn") => `(tactic| first | with_reducible assumption | exact ExN.refl _ | (refine' ExN.trans ?a (ExN.of ?b); (case b => with_reducible assumption); (case a => walk_at "exn")) | (refine' ExN.trans ?a ?b; (case b => with_reducible assumption); (case a => walk_at "exn")))
local macro_rules | `(tactic| walk_at "px") => `(tactic| first | with_reducible assumption | exact PX.refl _ _ | (refine' PX.of ?a; (case a => walk_at "ex0")) | (refine' PX.trans ?a (PX.of ?b); (case b => with_reducible assumption); (case a => walk_at "px")) | (refine' PX.trans ?a ?b; (case b => with_reducible assumption); (case a => walk_at "px")))
local macro_rules | `(tactic| walk_at "ex0") => `(tactic| with_reducible assumption)
local macro_rules | `(tactic| walk_at "ln") => `(tactic| first | exact rfl | omega | (simp only [scaleF, addF, List.length_map, List.length_zip, List.length_cons, List.length_nil] <;> omega))
local macro_rules | `(tactic| walk_at "kn") => `(tactic| first
  | with_reducible assumption
  | ((with_reducible refine' Fld.mono ?e ?m); (case e => with_reducible assumption); (case m => walk_at "kn"))
  | ((with_reducible refine' Ins.mono ?e ?m); (case e => with_reducible assumption); (case m => walk_at "kn"))
  | ((with_reducible refine' SqT.of ?m); (case m => walk_at "kn"))
  | ((with_reducible refine' SqL.of ?m); (case m => walk_at "kn"))
  | with_reducible exact kn_DEEDS (by assumption)
  | with_reducible exact kn_INNER (by assumption)
  | with_reducible exact kn_ONCE (by assumption)
  | with_reducible exact kn_TWICE (by assumption)
  | ((with_reducible refine' RB.mono ?e ?m); (case e => with_reducible assumption); (case m => walk_at "kn"))
  | ((with_reducible refine' RuleI.mono ?e ?m); (case e => with_reducible assumption); (case m => walk_at "kn"))
  | ((with_reducible refine' TestAt.mono ?e ?m); (case e => with_reducible assumption); (case m => walk_at "kn"))
  | ((with_reducible refine' TO_mono ?e ?m); (case e => with_reducible assumption); (case m => walk_at "kn"))
  | ((with_reducible refine' CaseAt.mono ?e ?m); (case e => with_reducible assumption); (case m => walk_at "kn"))
  | ((with_reducible refine' LT.fair ?e ?m); (case e => with_reducible assumption); (case m => with_reducible assumption))
  | ((with_reducible refine' LT.turn ?e ?m); (case e => with_reducible assumption); (case m => with_reducible assumption))
  | ((with_reducible refine' FormsB.mono ?e ?m); (case e => with_reducible assumption); (case m => walk_at "kn"))
  | ((with_reducible refine' tl_mono ?e ?m); (case e => with_reducible assumption); (case m => walk_at "kn"))
  | ((with_reducible refine' ExN.t ?e ?m); (case e => with_reducible assumption); (case m => walk_at "kn"))
  | ((with_reducible refine' ExN.fld ?e ?m); (case e => with_reducible assumption); (case m => walk_at "kn"))
  | ((with_reducible refine' ExN.ins ?e ?m); (case e => with_reducible assumption); (case m => walk_at "kn"))
  | ((with_reducible refine' RuleI.monoN ?e ?m); (case e => with_reducible assumption); (case m => walk_at "kn"))
  | ((with_reducible refine' TestAt.monoN ?e ?m); (case e => with_reducible assumption); (case m => walk_at "kn"))
  | ((with_reducible refine' CaseAt.monoN ?e ?m); (case e => with_reducible assumption); (case m => walk_at "kn"))
  | ((with_reducible refine' FormsB.monoN ?e ?m); (case e => with_reducible assumption); (case m => walk_at "kn"))
  | ((with_reducible refine' tl_monoN ?e ?m); (case e => with_reducible assumption); (case m => walk_at "kn"))
  | ((with_reducible refine' LT.mono ?e ?m); (case e => with_reducible assumption); (case m => walk_at "kn"))
  | ((with_reducible refine' PairI.mono ?e ?m); (case e => with_reducible assumption); (case m => walk_at "kn"))
  | ((with_reducible refine' WrongAt.mono ?e ?m); (case e => with_reducible assumption); (case m => walk_at "kn"))
  | ((with_reducible refine' Pen.mono ?e ?m); (case e => with_reducible assumption); (case m => walk_at "kn"))
  | ((with_reducible refine' PX.t ?e ?m); (case e => with_reducible assumption); (case m => walk_at "kn"))
  | ((with_reducible refine' PX.rule ?e ?m); (case e => with_reducible assumption); (case m => walk_at "kn"))
  | ((with_reducible refine' ex_t ?e ?m); (case e => with_reducible assumption); (case m => walk_at "kn"))
  | ((with_reducible refine' ex_l ?e ?m); (case e => with_reducible assumption); (case m => walk_at "kn"))
  | ((with_reducible refine' Ex.at ?e ?m); (case e => with_reducible assumption); (case m => walk_at "kn"))
  | ((with_reducible refine' Mu.t ?e ?n ?m); (case e => with_reducible assumption); (case n => with_reducible assumption); (case m => walk_at "kn"))
  | ((with_reducible refine' Mu.lst ?e ?n ?m); (case e => with_reducible assumption); (case n => with_reducible assumption); (case m => walk_at "kn"))
  | ((with_reducible refine' Mu.fld ?e ?n ?m); (case e => with_reducible assumption); (case n => with_reducible assumption); (case m => walk_at "kn")))
local macro_rules | `(tactic| walk_at "st") => `(tactic| first
  | with_reducible refine k_seq ?_
  | with_reducible refine k_asg ?_
  | with_reducible refine k_ret ?_
  | with_reducible refine k_drop ?_
  | with_reducible refine k_ifS ?_
  | with_reducible refine k_name ?_
  | with_reducible refine k_next ?_
  | ((with_reducible refine' k_var ?hv ?_); case hv => exact rfl)
  | with_reducible refine k_c ?_
  | with_reducible refine k_fld ?_
  | ((with_reducible refine' k_fld2 ?hv ?_); case hv => walk_at "kn")
  | with_reducible refine k_op ?_
  | with_reducible refine k_un ?_
  | with_reducible refine k_add ?_
  | with_reducible refine k_sub ?_
  | with_reducible refine k_neg ?_
  | ((with_reducible refine' k_mul ?hv ?_); case hv => first | (left; constructor <;> omega) | (right; constructor <;> omega))
  | ((with_reducible refine' k_fdiv ?hv ?_); case hv => constructor <;> omega)
  | ((with_reducible refine' k_mod ?hv ?_); case hv => omega)
  | with_reducible refine k_lt ?_
  | with_reducible refine k_le ?_
  | with_reducible refine k_gt ?_
  | with_reducible refine k_ge ?_
  | with_reducible refine k_eqI ?_
  | with_reducible refine k_eqT ?_
  | with_reducible refine k_neI ?_
  | with_reducible refine k_isN_int ?_
  | with_reducible refine k_isN_ref ?_
  | with_reducible refine k_isN_non ?_
  | with_reducible refine k_notN_int ?_
  | with_reducible refine k_notN_ref ?_
  | with_reducible refine k_notN_non ?_
  | with_reducible refine k_test ?_
  | with_reducible refine k_B ?_
  | with_reducible refine k_bx ?_
  | with_reducible refine k_not ?_
  | with_reducible refine k_notV ?_
  | with_reducible refine k_and ?_
  | with_reducible refine k_or ?_
  | with_reducible refine k_andV ?_
  | with_reducible refine k_orV ?_
  | with_reducible refine k_if ?_
  | with_reducible refine k_chain ?_
  | with_reducible refine iteT ?_
  | with_reducible refine iteF ?_
  | with_reducible refine k_nil ?_
  | with_reducible refine k_cons ?_
  | with_reducible refine k_tup ?_
  | with_reducible refine k_lst ?_
  | with_reducible refine k_call ?_
  | with_reducible refine k_meth ?_
  | ((with_reducible refine' k_meth2 ?hv ?_); case hv => walk_at "kn")
  | with_reducible refine k_make ?_
  | with_reducible refine k_cb ?_
  | with_reducible refine k_min2 ?_
  | with_reducible refine k_max2 ?_
  | with_reducible refine k_int1 ?_
  | with_reducible refine k_int1b ?_
  | with_reducible refine k_abs1 ?_
  | ((with_reducible refine' k_gtup ?hv ?hw ?_); (case hv => walk_at "kn"); (case hw => rfl))
  | with_reducible refine k_gcons ?_
  | with_reducible refine k_gnil ?_
  | with_reducible refine k_isi_ii ?_
  | with_reducible refine k_isi_ib ?_
  | with_reducible refine k_isi_ss ?_
  | ((with_reducible refine' k_isi_tt ?hv ?_); case hv => walk_at "kn")
  | with_reducible refine iteNT ?_
  | with_reducible refine iteNF ?_
  | with_reducible refine k_cval ?_
  | ((with_reducible refine' k_cval2 ?hv ?_); case hv => exact kn_most (by assumption))
  | with_reducible refine k_lc ?_
  | with_reducible refine k_iT ?_
  | ((with_reducible refine' k_iT2 ?hv ?_); case hv => walk_at "kn")
  | with_reducible refine k_iL ?_
  | ((with_reducible refine' k_iL2 ?hv ?_); case hv => walk_at "kn")
  | with_reducible refine k_i1 ?_
  | ((with_reducible refine' k_i1a ?hv ?_); case hv => constructor <;> omega)
  | with_reducible refine k_i2 ?_
  | ((with_reducible refine' k_i2a ?hv ?_); case hv => refine ⟨?_, ?_, ?_, ?_⟩ <;> omega)
  | with_reducible refine k_iZ ?_
  | ((with_reducible refine' k_iZa ?hv ?hw ?_); (case hv => walk_at "kn"); (case hw => walk_at "kn"))
  | with_reducible refine k_iN ?_
  | ((with_reducible refine' k_lenT ?hv ?_); case hv => walk_at "kn")
  | ((with_reducible refine' k_lenL ?hv ?_); case hv => walk_at "kn")
  | ((with_reducible refine' k_ixT ?hv ?hw ?_); (case hv => walk_at "kn"); (case hw => rfl))
  | ((with_reducible refine' k_tupL ?hv ?_); (case hv => walk_at "kn"); (refine' fun _ _ _ _ _ => ?_))
  | ((with_reducible refine' k_tupT ?hv ?_); (case hv => walk_at "kn"))
  | ((with_reducible refine' k_new ?hv ?_); (case hv => (simp only [List.length_cons, List.length_nil]; exact sze _ (by omega))); (refine' fun _ _ _ _ _ => ?_))
  | ((with_reducible refine' k_isiW ?hT ?hv ?_); (case hT => assumption); (case hv => walk_at "kn"))
  | ((with_reducible refine' k_isiT ?hT ?hv ?_); (case hT => assumption); (case hv => walk_at "kn"))
  | ((with_reducible refine' k_isiC ?hT ?hv ?_); (case hT => assumption); (case hv => walk_at "kn"))
  | ((with_reducible refine' k_isiLT ?hv ?hw ?_); (case hv => walk_at "kn"); (case hw => walk_at "kn"))
  | ((with_reducible refine' k_isN_TO ?hv ?_); (case hv => walk_at "kn"))
  | ((with_reducible refine' k_notN_TO ?hv ?_); (case hv => walk_at "kn"))
  | ((with_reducible refine' k_notInDeeds ?hv ?_); (case hv => walk_at "kn"))
  | with_reducible refine k_eqPut ?_
  | ((refine' k_eqB .inn ?hv ?hw ?hx ?_); (case hv => walk_at "kn"); (case hw => walk_at "kn"); (case hx => rfl))
  | ((refine' k_eqB .lf ?hv ?hw ?hx ?_); (case hv => walk_at "kn"); (case hw => walk_at "kn"); (case hx => rfl))
  | ((refine' k_eqB .ls ?hv ?hw ?hx ?_); (case hv => walk_at "kn"); (case hw => walk_at "kn"); (case hx => rfl))
  | ((refine' k_eqB .ff ?hv ?hw ?hx ?_); (case hv => walk_at "kn"); (case hw => walk_at "kn"); (case hx => rfl))
  | ((refine' k_eqB .fs ?hv ?hw ?hx ?_); (case hv => walk_at "kn"); (case hw => walk_at "kn"); (case hx => rfl))
  | ((refine' k_eqB .tf ?hv ?hw ?hx ?_); (case hv => walk_at "kn"); (case hw => walk_at "kn"); (case hx => rfl))
  | ((with_reducible refine' k_yes ?hv ?_); (case hv => walk_at "ar"))
  | ((with_reducible refine' k_no ?hv ?_); (case hv => walk_at "ar"))
  | ((with_reducible refine' k_nyes ?hv ?_); (case hv => walk_at "ar"))
  | ((with_reducible refine' k_nno ?hv ?_); (case hv => walk_at "ar"))
  | with_reducible refine k_sfld ?_
  | ((with_reducible refine' k_ixL ?hv ?hw ?_); (case hv => walk_at "kn"); (case hw => rfl))
  | ((with_reducible refine' k_sumTu _ ?hv ?_); (case hv => walk_at "kn"))
)
local macro_rules | `(tactic| walk_at "go") => `(tactic| repeat (walk_at "st"))
local macro_rules | `(tactic| walk_at "run") => `(tactic| (dsimp only [cxK]; walk_at "go"))

section
variable {P : Program} {w : World} {K : PySem.W.Frag} {mg : Str → Option Value} {base : Heap}
local macro_rules | `(tactic| walk_at "st") => `(tactic| first
  | ((with_reducible refine' k_slA  ?_)))
local macro_rules | `(tactic| walk_at "st") => `(tactic| first
  | ((with_reducible refine' k_part  ?_)))
local macro_rules | `(tactic| walk_at "st") => `(tactic| first
  | ((with_reducible refine' k_noPart  ?_)))
local macro_rules | `(tactic| walk_at "st") => `(tactic| first
  | ((with_reducible refine' k_pI  ?_)))
local macro_rules | `(tactic| walk_at "st") => `(tactic| first
  | ((with_reducible refine' k_for  ?_)))
local macro_rules | `(tactic| walk_at "st") => `(tactic| first
  | ((with_reducible refine' u_breaks ?ha ?hb ?_); (case ha => walk_at "kn"); (case hb => assumption); (refine' fun _ _ _ _ => ?_)))
def sp__law_pair_right (K : PySem.W.Frag) : Sp := SV (fun i : Addr × Addr × Rl × List Int × List (Int × Int × Int) × Bool × Int × Int => [.ref i.1, .ref i.2.1, .str (dS i.2.2.2.2.2.1), .int i.2.2.2.2.2.2.1, .int i.2.2.2.2.2.2.2])
  (fun ⟨a, tl, R, xs, rows, pt, l, hh⟩ H => SqT K H a (xs.map V.int) ∧ C3 R xs ∧ R.Ok ∧ R.turn = none ∧ (∃ ys, H tl = some (.lst ys) ∧ All2 (RwT K) rows ys H) ∧ (1 ≤ l ∧ l ≤ 900) ∧ (1 ≤ hh ∧ hh ≤ 900)) fun _ => .bl true
theorem ok__law_pair_right (T : TX K mg) (T2 : TR P K) : Ok P w K mg base 15 (He.ga K "_law_pair_right") ["_law_some", "_law_turns_so", "_law_deed", "_law_a", "_law_b"] (sp__law_pair_right K) := by
  obtain ⟨fd, F⟩ := T.F__law_pair_right
  obtain ⟨_, G_breaks, b_breaks, k_breaks⟩ := ok_breaks (P := P) (w := w) (base := base) T
  obtain ⟨_, G__law_rule, b__law_rule, k__law_rule⟩ := ok__law_rule (P := P) (w := w) (base := base) T T2
  obtain ⟨_, G__law_carried, b__law_carried, k__law_carried⟩ := ok__law_carried (P := P) (w := w) (base := base) T
  refine ⟨fd, okN F sc__law_pair_right (by first | exact SV.len (fun _ => rfl) | exact PR.len (fun _ => rfl) | exact PM.len (fun _ => rfl) | exact SJ.len (fun _ => rfl) | exact spEqB_len) (fun cdv A outer s H vs Q E hr h => ?_), F.bindsN (fun _ _ _ _ _ _ us hl => match us, hl with | [_, _, _, _, _], _ => rfl), F.kp⟩
  obtain ⟨⟨a, tl, R, xs, rows, pt, l, hh⟩, rfl, ⟨hS, hC, ok, hT, ⟨ys, hl, a2⟩, c1, c2⟩, q⟩ := h
  dsimp only at hS hC ok hT hl a2 c1 c2 q
  have cc := And.intro c1 c2
  refine ⟨_, (pss_cons (ps_set (i := 5) sc__law_pair_right.nd rfl (Or.inl rfl) (pe_call G_breaks (hr.mono (by decide)) (by rfl) T.g_breaks k_breaks b_breaks .nil pass0 (pa_cons (pe_call G__law_rule (hr.mono (by decide)) (by rfl) T.g__law_rule k__law_rule b__law_rule .nil pass0 (pa_cons (pe_slice sl_tupA (pv 0) po_none (po_some pe_int)) pa_nil)) (pa_cons (pv 2) (pa_cons (pv 3) (pa_cons (pv 4) pa_nil))))))
      (pss_cons (ps_if (pt_cmpR o_isN (pv 5) pe_non (nomark _)) (pss_one (ps_ret pe_bl)) pss_nil)
      (pss_cons (ps_for PassesOwn.never rfl (pi_list (pv 1)) (pg_name (i := 6) sc__law_pair_right.nd rfl (by first | exact Or.inl rfl | exact Or.inr rfl)) (pss_cons (ps_set (i := 7) sc__law_pair_right.nd rfl (Or.inl rfl) (pe_call G__law_rule (hr.mono (by decide)) (by rfl) T.g__law_rule k__law_rule b__law_rule .nil pass0 (pa_cons (pe_op op_catA (pe_slice sl_tupA (pv 0) po_none (po_some pe_int)) (pv 6)) pa_nil)))
      (pss_one (ps_if (PW.pt (pw_or (pt_cmpR o_isN (pe_call G_breaks (hr.mono (by decide)) (by rfl) T.g_breaks k_breaks b_breaks .nil pass0 (pa_cons (pv 7) (pa_cons (pv 2) (pa_cons (pv 3) (pa_cons (pv 4) pa_nil))))) pe_non (nomark _)) (pw_or1 (pt_not (pt_val (pe_call G__law_carried (hr.mono (by decide)) (by rfl) T.g__law_carried k__law_carried b__law_carried .nil pass0 (pa_cons (pv 7) (pa_cons (pv 5) pa_nil)))))))) (pss_one (ps_ret pe_bl)) pss_nil))))
      (pss_one (ps_ret pe_bl))))), ?_⟩
  walk_at "run"
  refine k_slT hS hC.1 hC.2 fun l1 H1 e1 h1 => ?_
  walk_at "go"
  refine u_rule (xs := [R.p, R.q, R.k]) h1 ok (.inl ⟨hT, rfl⟩) fun r1 H2 e2 hR => ?_
  walk_at "go"
  rename_i v H3 e3 hB
  rcases hB with ⟨rfl, _⟩ | ⟨hH, aw, o, w', ns, rfl, hm, hW, hN⟩
  · walk_at "go"
    refine q _ ?_
    walk_at "ex"
  · obtain ⟨b, b', rfl, rfl, hb⟩ := casesOf_try hT hm
    walk_at "go"
    have hl3 : H3 tl = some (.lst ys) := e3 _ _ (e2 _ _ (e1 _ _ hl))
    have a3 : All2 (RwT K) rows ys H3 := a2.mono fun _ _ r => r.mono (.of ((e1.trans e2).trans e3))
    refine for_list (K := K) (xs := ys) (fun i σ' H' => ∃ u1 u2, σ' = [some (.ref a), some (.ref tl), some (.str (dS pt)), some (.int l), some (.int hh), some (.ref aw), u1, u2] ∧ Ex H3 H')
      ⟨none, none, rfl, Ex.refl _⟩ (fun i σ' H' _ hI => SqL.of (hI.choose_spec.choose_spec.2 _ _ hl3)) (fun i x σ' H' hx hI => ?_) (fun σ' H' hI => ?_)
    · obtain ⟨u1, u2, rfl, eI⟩ := hI
      have hi : i < ys.length := (List.getElem?_eq_some_iff.mp hx).1
      have hi2 : i < rows.length := by rw [← a3.1]; exact hi
      obtain ⟨⟨t, s, rr⟩, hrow⟩ : ∃ c, rows[i] = c := ⟨_, rfl⟩
      obtain ⟨⟨ta, rfl, hta⟩, tok⟩ := a3.2 i _ x (List.getElem?_eq_getElem hi2) hx
      rw [hrow] at hta tok
      have hta : SqT K H3 ta [.int t, .int s, .int rr] := hta
      have tok : TOk t s rr := tok
      obtain ⟨hcan, e, c, rfl, hholds⟩ := carried (R := R) (s := s) (t := t) (r := rr) ok tok c1.1 hH rfl rfl (onceL_not hb) hN
      walk_at "go"
      refine k_slT (by walk_at "kn") hC.1 hC.2 fun l4 H4 e4 h4 => ?_
      walk_at "go"
      refine k_catA h4 (by walk_at "kn") (by simp) (by simp) (by simp) fun l5 H5 e5 h5 => ?_
      walk_at "go"
      refine u_rule (R := R.turned t s rr) (xs := [R.p, R.q, R.k, t, s, rr]) h5 (Rl.turned_ok ok tok) (.inr ⟨t, s, rr, rfl, rfl⟩) fun r6 H6 e6 hR6 => ?_
      walk_at "go"
      rename_i v7 H7 e7 hB7
      rcases hB7 with ⟨rfl, hno⟩ | ⟨hH7, aw7, o7, w7, ns7, rfl, hm7, hW7, hN7⟩
      · exfalso
        have hno := hno hH
        rcases hcan with hcan | hcan
        · rw [hno (some b, none) (casesOf_o rfl hb)] at hcan
          cases hcan
        · rw [hno (none, some b') (casesOf_w rfl)] at hcan
          cases hcan
      · refine isN_ref ?_
        walk_at "go"
        refine ⟨(r6, aw, R.turned t s rr, pt, b, b', l, e, c, hh), rfl, ⟨by walk_at "kn", rfl, by walk_at "kn", hb, hholds⟩, fun H8 e8 => ?_⟩
        walk_at "go"
        exact ⟨_, _, rfl, by walk_at "ex"⟩
    · obtain ⟨u1, u2, rfl, eI⟩ := hI
      walk_at "go"
      refine q _ ?_
      walk_at "ex"
theorem u_pair_right {a tl : Addr} {R : Rl} {xs : List Int} {rows : List (Int × Int × Int)} {ys : List V} {pt : Bool} {l hh : Int} {H : Hp} {Q : VK} {E : XK} (hS : SqT K H a (xs.map V.int)) (hC : C3 R xs) (ok : R.Ok) (hT : R.turn = none) (hl : H tl = some (.lst ys)) (a2 : All2 (RwT K) rows ys H) (c : (1 ≤ l ∧ l ≤ 900) ∧ (1 ≤ hh ∧ hh ≤ 900))
    (q : ∀ H', Ex H H' → Q (.bl true) H') : sp__law_pair_right K [.ref a, .ref tl, .str (dS pt), .int l, .int hh] H Q E :=
  ⟨(a, tl, R, xs, rows, pt, l, hh), rfl, ⟨hS, hC, ok, hT, ⟨ys, hl, a2⟩, c.1, c.2⟩, q⟩

end
end M
namespace M
open PySem PySem.Spec PyProof.Rows L2 Evl
theorem PX.updN {pen D : Addr} {H H' : Hp} {o : HO} (hD : H D = none) (e : PX pen H H') : PX pen H (L2.upd H' D o) := by
  refine ⟨fun a u n h => ?_, fun a u n h => ?_⟩
  · rw [upd_ne (ne_of_none h hD)]
    exact e.n _ _ n h
  · rw [upd_ne (ne_of_none h hD)]
    exact e.m _ _ n h
theorem Pen.updN {pen c D : Addr} {n : Int} {H' : Hp} {o : HO} (h1 : D ≠ pen) (h2 : D ≠ c) (p : Pen H' pen c n) : Pen (upd H' D o) pen c n := by
  obtain ⟨ns, at_, g, e1, e2, r⟩ := p.ex
  exact ⟨ns, at_, g, by rw [upd_ne (Ne.symm h1)]; exact e1, by rw [upd_ne (Ne.symm h2)]; exact e2, r⟩
section
variable {K : PySem.W.Frag} {pen c : Addr} {m0 : Int} {H : Hp} {g : TG} {te : TE} {vs : List Nat} {σ : L2.St} {F : Addr → Hp → Prop}
/-- a comprehension over a range, its element draws three times -/
theorem lcPen {lo : Int} (n : Nat) (hn : n < 900) (hP : Pen H pen c m0)
    (blk : ∀ (i : Nat) (H2 : Hp) (Qk : VK), i < n → PX pen H H2 → Pen H2 pen c (m0 + 3 * (i : Int)) → (∀ y H4, PX pen H2 H4 → Pen H4 pen c (m0 + 3 * (i : Int) + 3) → (∃ j, RwT K j y H4) → Qk y H4) → g (.int (lo + i)) (wipe σ vs) H2 fun σ2 H3 => wipe σ2 vs = wipe σ vs ∧ te σ2 H3 Qk)
    (hd : ∀ D H' ys rows, H D = none → PX pen H H' → Pen H' pen c (m0 + 3 * (n : Int)) → H' D = some (.lst ys) → All2 (RwT K) rows ys H' → F D H') : LcGoal (Itr lo n) g te vs σ H F := fun D hD => by
  have n1 := hP.ne hD
  have n2 := hP.nc hD
  refine lc_it (walk_range (n := n)) (fun i H' => PX pen H H' ∧ Pen H' pen c (m0 + 3 * (i : Int)) ∧ ∃ ys rows, H' D = some (.lst ys) ∧ rows.length = i ∧ i ≤ n ∧ All2 (RwT K) rows ys H')
    ⟨(PX.refl pen H).updN hD, (show Pen H pen c (m0 + 3 * ((0 : Nat) : Int)) from hP.le (by omega)).updN n1 n2, [], [], upd_same, rfl, Nat.zero_le _, All2.nil⟩ (fun _ _ _ _ => trivial) (fun i x H1 H2 hi p y => ?_) (fun H1 p => ?_)
  · obtain ⟨px, hP1, ys, rows, hy, hl, _, a2⟩ := p
    obtain ⟨rfl, rfl⟩ := y
    refine blk i _ _ hi px hP1 fun y4 H4 e4 hP4 ⟨j, hj⟩ => ?_
    have h4 : H4 D = some (.lst ys) := e4.m _ _ n1 hy
    have hlen : ys.length = i := by rw [a2.1, hl]
    refine ⟨ys, h4, sz _ (by omega), (px.trans e4).updN hD, (hP4.le (by omega)).updN n1 n2, _, rows ++ [j], upd_same, by simp [hl], by omega, ?_⟩
    have en : ExN H4 (upd H4 D (.lst (ys ++ [y4]))) := ExN.upd h4
    exact (a2.mono fun j y r => r.mono (e4.n.trans en)).snoc (hj.mono en)
  · obtain ⟨px, hP1, ys, rows, hy, hl, _, a2⟩ := p
    exact hd D H1 ys rows hD px hP1 hy a2
end
/-- what a law's row of numbers tells -/
theorem some_of {K : PySem.W.Frag} {H : Hp} {a : Addr} {R : Rl} {t s r : Int} (h : SqT K H a [.int R.p, .int R.q, .int R.k, .int t, .int s, .int r]) : SqT K H a (([R.p, R.q, R.k, t, s, r] : List Int).map V.int) := h
def SomeAt (K : PySem.W.Frag) (H : Hp) (v : V) : Prop := ∃ (a : Addr) (R : Rl) (xs : List Int), v = .ref a ∧ SqT K H a (xs.map V.int) ∧ C3 R xs ∧ R.Ok ∧ R.turn = none
theorem SomeAt.mono {K : PySem.W.Frag} {H H' : Hp} {v : V} (e : ExN H H') (h : SomeAt K H v) : SomeAt K H' v := by
  obtain ⟨a, R, xs, e1, e2, r⟩ := h
  exact ⟨a, R, xs, e1, e.t e2, r⟩
theorem ok_210 : Rl.Ok ⟨2, 1, 0, none⟩ := ⟨by decide, by decide, by decide, by decide, by decide, by decide, fun _ _ _ e => by cases e⟩
theorem ok_111 : Rl.Ok ⟨1, 1, 1, none⟩ := ⟨by decide, by decide, by decide, by decide, by decide, by decide, fun _ _ _ e => by cases e⟩
theorem ok_321 : Rl.Ok ⟨3, 2, 1, none⟩ := ⟨by decide, by decide, by decide, by decide, by decide, by decide, fun _ _ _ e => by cases e⟩
theorem ok_531 : Rl.Ok ⟨5, 3, 1, none⟩ := ⟨by decide, by decide, by decide, by decide, by decide, by decide, fun _ _ _ e => by cases e⟩
theorem some_three {K : PySem.W.Frag} {H : Hp} {a : Addr} (R : Rl) (ok : R.Ok) (hT : R.turn = none) (h : SqT K H a [.int R.p, .int R.q, .int R.k]) : SomeAt K H (.ref a) := ⟨a, R, [R.p, R.q, R.k], rfl, h, c3_three R, ok, hT⟩
section
variable {σ : L2.St} {H : Hp} {ta : TA} {D : Ends} {K : PySem.W.Frag}
theorem k_par {i j : Nat} (h : ta σ H fun vs H1 => ∃ v w, vs = [v, w] ∧ D.nx ((σ.set i (some v)).set j (some w)) H1) : tPar i j ta D σ H := h
theorem k_parV {F : V → V → Prop} {v w : V} (q : F v w) : ∃ v' w', [v, w] = [v', w'] ∧ F v' w' := ⟨v, w, rfl, q⟩
theorem rC_try {R : Rl} (hT : R.turn = none) : rC K R = He.ga K "TryRule" := by simp [rC, hT]
end
end M
namespace M
open PySem PySem.Spec PyProof.Rows L2 Evl
local macro_rules | `(tactic| walk_at "ar") => `(tactic| first | exact rfl | omega | (simp only [List.length_map, List.length_cons, List.length_nil] at *; omega) | decide)
local macro_rules | `(tactic| walk_at "ex") => `(tactic| first | with_reducible assumption | exact Ex.refl _ | (refine' Ex.trans ?a ?b; (case b => with_reducible assumption); (case a => walk_at "ex")) | (refine' Ex.mu2 ?a ?n ?b; (case b => with_reducible assumption); (case n => with_reducible assumption); (case a => walk_at "ex")))
local macro_rules | `(tactic| walk_at "exn") => `(tactic| first | with_reducible assumption | exact ExN.refl _ | (refine' ExN.trans ?a (ExN.of ?b); (case b => with_reducible assumption); (case a => walk_at "exn")) | (refine' ExN.trans ?a ?b; (case b => with_reducible assumption); (case a => walk_at "exn")))
local macro_rules | `(tactic| walk_at "px") => `(tactic| first | with_reducible assumption | exact PX.refl _ _ | (refine' PX.of ?a; (case a => walk_at "ex0")) | (refine' PX.trans ?a (PX.of ?b); (case b => with_reducible assumption); (case a => walk_at "px")) | (refine' PX.trans ?a ?b; (case b => with_reducible assumption); (case a => walk_at "px")))
local macro_rules | `(tactic| walk_at "ex0") => `(tactic| with_reducible assumption)
local macro_rules | `(tactic| walk_at "ln") => `(tactic| first | exact rfl | omega | (simp only [scaleF, addF, List.length_map, List.length_zip, List.length_cons, List.length_nil] <;> omega))
local macro_rules | `(tactic| walk_at "kn") => `(tactic| first
  | with_reducible assumption
  | ((with_reducible refine' Fld.mono ?e ?m); (case e => with_reducible assumption); (case m => walk_at "kn"))
  | ((with_reducible refine' Ins.mono ?e ?m); (case e => with_reducible assumption); (case m => walk_at "kn"))
  | ((with_reducible refine' SqT.of ?m); (case m => walk_at "kn"))
  | ((with_reducible refine' SqL.of ?m); (case m => walk_at "kn"))
  | with_reducible exact kn_DEEDS (by assumption)
  | with_reducible exact kn_INNER (by assumption)
  | with_reducible exact kn_ONCE (by assumption)
  | with_reducible exact kn_TWICE (by assumption)
  | ((with_reducible refine' RB.mono ?e ?m); (case e => with_reducible assumption); (case m => walk_at "kn"))
  | ((with_reducible refine' RuleI.mono ?e ?m); (case e => with_reducible assumption); (case m => walk_at "kn"))
  | ((with_reducible refine' TestAt.mono ?e ?m); (case e => with_reducible assumption); (case m => walk_at "kn"))
  | ((with_reducible refine' TO_mono ?e ?m); (case e => with_reducible assumption); (case m => walk_at "kn"))
  | ((with_reducible refine' CaseAt.mono ?e ?m); (case e => with_reducible assumption); (case m => walk_at "kn"))
  | ((with_reducible refine' LT.fair ?e ?m); (case e => with_reducible assumption); (case m => with_reducible assumption))
  | ((with_reducible refine' LT.turn ?e ?m); (case e => with_reducible assumption); (case m => with_reducible assumption))
  | ((with_reducible refine' FormsB.mono ?e ?m); (case e => with_reducible assumption); (case m => walk_at "kn"))
  | ((with_reducible refine' tl_mono ?e ?m); (case e => with_reducible assumption); (case m => walk_at "kn"))
  | ((with_reducible refine' ExN.t ?e ?m); (case e => with_reducible assumption); (case m => walk_at "kn"))
  | ((with_reducible refine' ExN.fld ?e ?m); (case e => with_reducible assumption); (case m => walk_at "kn"))
  | ((with_reducible refine' ExN.ins ?e ?m); (case e => with_reducible assumption); (case m => walk_at "kn"))
  | ((with_reducible refine' RuleI.monoN ?e ?m); (case e => with_reducible assumption); (case m => walk_at "kn"))
  | ((with_reducible refine' TestAt.monoN ?e ?m); (case e => with_reducible assumption); (case m => walk_at "kn"))
  | ((with_reducible refine' CaseAt.monoN ?e ?m); (case e => with_reducible assumption); (case m => walk_at "kn"))
  | ((with_reducible refine' FormsB.monoN ?e ?m); (case e => with_reducible assumption); (case m => walk_at "kn"))
  | ((with_reducible refine' tl_monoN ?e ?m); (case e => with_reducible assumption); (case m => walk_at "kn"))
  | ((with_reducible refine' LT.mono ?e ?m); (case e => with_reducible assumption); (case m => walk_at "kn"))
  | ((with_reducible refine' PairI.mono ?e ?m); (case e => with_reducible assumption); (case m => walk_at "kn"))
  | ((with_reducible refine' WrongAt.mono ?e ?m); (case e => with_reducible assumption); (case m => walk_at "kn"))
  | ((with_reducible refine' Pen.mono ?e ?m); (case e => with_reducible assumption); (case m => walk_at "kn"))
  | ((with_reducible refine' PX.t ?e ?m); (case e => with_reducible assumption); (case m => walk_at "kn"))
  | ((with_reducible refine' PX.rule ?e ?m); (case e => with_reducible assumption); (case m => walk_at "kn"))
  | ((with_reducible refine' ex_t ?e ?m); (case e => with_reducible assumption); (case m => walk_at "kn"))
  | ((with_reducible refine' ex_l ?e ?m); (case e => with_reducible assumption); (case m => walk_at "kn"))
  | ((with_reducible refine' Ex.at ?e ?m); (case e => with_reducible assumption); (case m => walk_at "kn"))
  | ((with_reducible refine' Mu.t ?e ?n ?m); (case e => with_reducible assumption); (case n => with_reducible assumption); (case m => walk_at "kn"))
  | ((with_reducible refine' Mu.lst ?e ?n ?m); (case e => with_reducible assumption); (case n => with_reducible assumption); (case m => walk_at "kn"))
  | ((with_reducible refine' Mu.fld ?e ?n ?m); (case e => with_reducible assumption); (case n => with_reducible assumption); (case m => walk_at "kn")))
local macro_rules | `(tactic| walk_at "st") => `(tactic| first
  | with_reducible refine k_seq ?_
  | with_reducible refine k_asg ?_
  | with_reducible refine k_ret ?_
  | with_reducible refine k_drop ?_
  | with_reducible refine k_ifS ?_
  | with_reducible refine k_name ?_
  | with_reducible refine k_next ?_
  | ((with_reducible refine' k_var ?hv ?_); case hv => exact rfl)
  | with_reducible refine k_c ?_
  | with_reducible refine k_fld ?_
  | ((with_reducible refine' k_fld2 ?hv ?_); case hv => walk_at "kn")
  | with_reducible refine k_op ?_
  | with_reducible refine k_un ?_
  | with_reducible refine k_add ?_
  | with_reducible refine k_sub ?_
  | with_reducible refine k_neg ?_
  | ((with_reducible refine' k_mul ?hv ?_); case hv => first | (left; constructor <;> omega) | (right; constructor <;> omega))
  | ((with_reducible refine' k_fdiv ?hv ?_); case hv => constructor <;> omega)
  | ((with_reducible refine' k_mod ?hv ?_); case hv => omega)
  | with_reducible refine k_lt ?_
  | with_reducible refine k_le ?_
  | with_reducible refine k_gt ?_
  | with_reducible refine k_ge ?_
  | with_reducible refine k_eqI ?_
  | with_reducible refine k_eqT ?_
  | with_reducible refine k_neI ?_
  | with_reducible refine k_isN_int ?_
  | with_reducible refine k_isN_ref ?_
  | with_reducible refine k_isN_non ?_
  | with_reducible refine k_notN_int ?_
  | with_reducible refine k_notN_ref ?_
  | with_reducible refine k_notN_non ?_
  | with_reducible refine k_test ?_
  | with_reducible refine k_B ?_
  | with_reducible refine k_bx ?_
  | with_reducible refine k_not ?_
  | with_reducible refine k_notV ?_
  | with_reducible refine k_and ?_
  | with_reducible refine k_or ?_
  | with_reducible refine k_andV ?_
  | with_reducible refine k_orV ?_
  | with_reducible refine k_if ?_
  | with_reducible refine k_chain ?_
  | with_reducible refine iteT ?_
  | with_reducible refine iteF ?_
  | with_reducible refine k_nil ?_
  | with_reducible refine k_cons ?_
  | with_reducible refine k_tup ?_
  | with_reducible refine k_lst ?_
  | with_reducible refine k_call ?_
  | with_reducible refine k_meth ?_
  | ((with_reducible refine' k_meth2 ?hv ?_); case hv => walk_at "kn")
  | with_reducible refine k_make ?_
  | with_reducible refine k_cb ?_
  | with_reducible refine k_min2 ?_
  | with_reducible refine k_max2 ?_
  | with_reducible refine k_int1 ?_
  | with_reducible refine k_int1b ?_
  | with_reducible refine k_abs1 ?_
  | ((with_reducible refine' k_gtup ?hv ?hw ?_); (case hv => walk_at "kn"); (case hw => rfl))
  | with_reducible refine k_gcons ?_
  | with_reducible refine k_gnil ?_
  | with_reducible refine k_isi_ii ?_
  | with_reducible refine k_isi_ib ?_
  | with_reducible refine k_isi_ss ?_
  | ((with_reducible refine' k_isi_tt ?hv ?_); case hv => walk_at "kn")
  | with_reducible refine iteNT ?_
  | with_reducible refine iteNF ?_
  | with_reducible refine k_cval ?_
  | ((with_reducible refine' k_cval2 ?hv ?_); case hv => exact kn_most (by assumption))
  | with_reducible refine k_lc ?_
  | with_reducible refine k_iT ?_
  | ((with_reducible refine' k_iT2 ?hv ?_); case hv => walk_at "kn")
  | with_reducible refine k_iL ?_
  | ((with_reducible refine' k_iL2 ?hv ?_); case hv => walk_at "kn")
  | with_reducible refine k_i1 ?_
  | ((with_reducible refine' k_i1a ?hv ?_); case hv => constructor <;> omega)
  | with_reducible refine k_i2 ?_
  | ((with_reducible refine' k_i2a ?hv ?_); case hv => refine ⟨?_, ?_, ?_, ?_⟩ <;> omega)
  | with_reducible refine k_iZ ?_
  | ((with_reducible refine' k_iZa ?hv ?hw ?_); (case hv => walk_at "kn"); (case hw => walk_at "kn"))
  | with_reducible refine k_iN ?_
  | ((with_reducible refine' k_lenT ?hv ?_); case hv => walk_at "kn")
  | ((with_reducible refine' k_lenL ?hv ?_); case hv => walk_at "kn")
  | ((with_reducible refine' k_ixT ?hv ?hw ?_); (case hv => walk_at "kn"); (case hw => rfl))
  | ((with_reducible refine' k_tupL ?hv ?_); (case hv => walk_at "kn"); (refine' fun _ _ _ _ _ => ?_))
  | ((with_reducible refine' k_tupT ?hv ?_); (case hv => walk_at "kn"))
  | ((with_reducible refine' k_new ?hv ?_); (case hv => (simp only [List.length_cons, List.length_nil]; exact sze _ (by omega))); (refine' fun _ _ _ _ _ => ?_))
  | ((with_reducible refine' k_isiW ?hT ?hv ?_); (case hT => assumption); (case hv => walk_at "kn"))
  | ((with_reducible refine' k_isiT ?hT ?hv ?_); (case hT => assumption); (case hv => walk_at "kn"))
  | ((with_reducible refine' k_isiC ?hT ?hv ?_); (case hT => assumption); (case hv => walk_at "kn"))
  | ((with_reducible refine' k_isiLT ?hv ?hw ?_); (case hv => walk_at "kn"); (case hw => walk_at "kn"))
  | ((with_reducible refine' k_isN_TO ?hv ?_); (case hv => walk_at "kn"))
  | ((with_reducible refine' k_notN_TO ?hv ?_); (case hv => walk_at "kn"))
  | ((with_reducible refine' k_notInDeeds ?hv ?_); (case hv => walk_at "kn"))
  | with_reducible refine k_eqPut ?_
  | ((refine' k_eqB .inn ?hv ?hw ?hx ?_); (case hv => walk_at "kn"); (case hw => walk_at "kn"); (case hx => rfl))
  | ((refine' k_eqB .lf ?hv ?hw ?hx ?_); (case hv => walk_at "kn"); (case hw => walk_at "kn"); (case hx => rfl))
  | ((refine' k_eqB .ls ?hv ?hw ?hx ?_); (case hv => walk_at "kn"); (case hw => walk_at "kn"); (case hx => rfl))
  | ((refine' k_eqB .ff ?hv ?hw ?hx ?_); (case hv => walk_at "kn"); (case hw => walk_at "kn"); (case hx => rfl))
  | ((refine' k_eqB .fs ?hv ?hw ?hx ?_); (case hv => walk_at "kn"); (case hw => walk_at "kn"); (case hx => rfl))
  | ((refine' k_eqB .tf ?hv ?hw ?hx ?_); (case hv => walk_at "kn"); (case hw => walk_at "kn"); (case hx => rfl))
  | ((with_reducible refine' k_yes ?hv ?_); (case hv => walk_at "ar"))
  | ((with_reducible refine' k_no ?hv ?_); (case hv => walk_at "ar"))
  | ((with_reducible refine' k_nyes ?hv ?_); (case hv => walk_at "ar"))
  | ((with_reducible refine' k_nno ?hv ?_); (case hv => walk_at "ar"))
  | with_reducible refine k_sfld ?_
  | ((with_reducible refine' k_ixL ?hv ?hw ?_); (case hv => walk_at "kn"); (case hw => rfl))
  | ((with_reducible refine' k_sumTu _ ?hv ?_); (case hv => walk_at "kn"))
)
local macro_rules | `(tactic| walk_at "go") => `(tactic| repeat (walk_at "st"))
local macro_rules | `(tactic| walk_at "run") => `(tactic| (dsimp only [cxK]; walk_at "go"))

section
variable {P : Program} {w : World} {K : PySem.W.Frag} {mg : Str → Option Value} {base : Heap}
local macro_rules | `(tactic| walk_at "st") => `(tactic| first
  | ((with_reducible refine' k_slA  ?_)))
local macro_rules | `(tactic| walk_at "st") => `(tactic| first
  | ((with_reducible refine' k_part  ?_)))
local macro_rules | `(tactic| walk_at "st") => `(tactic| first
  | ((with_reducible refine' k_noPart  ?_)))
local macro_rules | `(tactic| walk_at "st") => `(tactic| first
  | ((with_reducible refine' k_pI  ?_)))
local macro_rules | `(tactic| walk_at "st") => `(tactic| first
  | ((with_reducible refine' k_for  ?_)))
local macro_rules | `(tactic| walk_at "st") => `(tactic| first
  | ((with_reducible refine' k_par  ?_)))
local macro_rules | `(tactic| walk_at "st") => `(tactic| first
  | ((with_reducible refine' k_parV  ?_)))
local macro_rules | `(tactic| walk_at "st") => `(tactic| first
  | ((with_reducible refine' u_greatest ?ha ?hb ?_); (case ha => walk_at "kn"); (case hb => constructor <;> omega); (refine' fun _ _ => ?_)))
local macro_rules | `(tactic| walk_at "st") => `(tactic| first
  | ((with_reducible refine' u_pair_right ?ha ?hb ?hc ?hd ?he ?hf ?hg ?_); (case ha => walk_at "kn"); (case hb => assumption); (case hc => assumption); (case hd => assumption); (case he => walk_at "kn"); (case hf => walk_at "kn"); (case hg => refine ⟨⟨?_, ?_⟩, ?_, ?_⟩ <;> omega); (refine' fun _ _ => ?_)))
local macro_rules | `(tactic| walk_at "st") => `(tactic| first
  | ((with_reducible refine' u_draw ?ha ?hb ?_); (case ha => walk_at "kn"); (case hb => refine ⟨?_, ?_, ?_⟩ <;> omega); (refine' fun _ _ _ _ _ => ?_)))
def sp_law (K : PySem.W.Frag) : Sp := fun vs H Q _ => ∃ (a : Addr) (ns : List Int), vs = [.ref a] ∧ SqL K H a (ns.map V.int) ∧ ∀ H', Q (.bl true) H'
theorem sp_law_len (vs : List V) (H : Hp) (Q : VK) (E : XK) (h : sp_law K vs H Q E) : vs.length = 1 := by
  obtain ⟨a, ns, rfl, _⟩ := h
  rfl
theorem u_numbers {pen c : Addr} {n : Int} {H : Hp} {Q : VK} {E : XK} (hP : Pen H pen c n) (hb : 0 ≤ n ∧ n ≤ 800) (q : ∀ (a : Addr) (R : Rl) (t s r : Int) H', PX pen H H' → SqT K H' a [.int R.p, .int R.q, .int R.k, .int t, .int s, .int r] → R.Ok → R.turn = none → Pen H' pen c (n + 8) → Q (.ref a) H') : sp__law_numbers K [.ref pen] H Q E :=
  ⟨(pen, c, n), rfl, ⟨hP, hb.1, hb.2⟩, fun v H' e ⟨a, R, t, s, r, ev, h1, h2, h3, _, h4⟩ => ev ▸ q a R t s r H' e h1 h2 h3 h4⟩
local macro_rules | `(tactic| walk_at "st") => `(tactic| first
  | ((with_reducible refine' u_numbers ?ha ?hb ?_); (case ha => walk_at "kn"); (case hb => constructor <;> omega); (refine' fun _ _ _ _ _ _ _ _ _ _ _ => ?_)))
local macro_rules | `(tactic| walk_at "st") => `(tactic| first
  | ((with_reducible refine' u_pick ?ha ?hb ?hc ?hd ?_); (case ha => walk_at "kn"); (case hb => walk_at "kn"); (case hc => (refine' Pen.ne ?ya ?yb; (case yb => with_reducible assumption); (case ya => walk_at "kn"))); (case hd => (simp only [List.length_cons, List.length_nil]; omega)); (refine' fun _ _ _ _ _ => ?_)))
theorem ok_law (T : TX K mg) (T2 : TR P K) {fd : FuncData} (F : FunD K "law" "law" (defArgs s_law) (defBody s_law) (defScope s_law) [] [] (He.ga K "law") fd) : FnOk P w K mg base CX0 17 (He.ga K "law") fd ["_law_script"] (sp_law K) := by
  obtain ⟨_, G__law_pen, b__law_pen, k__law_pen⟩ := ok__law_pen (P := P) (w := w) (base := base) T
  obtain ⟨_, G__law_pick, b__law_pick, k__law_pick⟩ := ok__law_pick (P := P) (w := w) (base := base) T
  obtain ⟨_, G__law_numbers, b__law_numbers, k__law_numbers⟩ := ok__law_numbers (P := P) (w := w) (base := base) T
  obtain ⟨_, G__law_draw, b__law_draw, k__law_draw⟩ := ok__law_draw (P := P) (w := w) (base := base) T
  obtain ⟨_, G__law_rule, b__law_rule, k__law_rule⟩ := ok__law_rule (P := P) (w := w) (base := base) T T2
  obtain ⟨_, G_WeightRule_greatest, b_WeightRule_greatest, k_WeightRule_greatest⟩ := ok_WeightRule_greatest (P := P) (w := w) (base := base) T
  obtain ⟨_, G__law_pair_right, b__law_pair_right, k__law_pair_right⟩ := ok__law_pair_right (P := P) (w := w) (base := base) T T2
  refine okN F sc_law (by first | exact SV.len (fun _ => rfl) | exact PR.len (fun _ => rfl) | exact PM.len (fun _ => rfl) | exact SJ.len (fun _ => rfl) | exact spEqB_len | exact sp_law_len) (fun cdv A outer s H vs Q E hr h => ?_)
  obtain ⟨a, ns, rfl, hS, q⟩ := h
  refine ⟨_, (pss_cons (ps_set (i := 1) sc_law.nd rfl (Or.inr rfl) (pe_call G__law_pen (hr.mono (by decide)) (by rfl) T.g__law_pen k__law_pen b__law_pen .nil pass0 (pa_cons (pv 0) pa_nil)))
      (pss_cons (ps_for PassesOwn.never rfl (pi_range1 (by rfl) T.n_range (pa_cons pe_int pa_nil)) (pg_name (i := 2) sc_law.nd rfl (by first | exact Or.inl rfl | exact Or.inr rfl)) (pss_cons (ps_set (i := 3) sc_law.nd rfl (Or.inl rfl) (pe_call G__law_pick (hr.mono (by decide)) (by rfl) T.g__law_pick k__law_pick b__law_pick .nil pass0 (pa_cons (pv 1) (pa_cons (pe_lst (pa_cons (pe_call G__law_numbers (hr.mono (by decide)) (by rfl) T.g__law_numbers k__law_numbers b__law_numbers .nil pass0 (pa_cons (pv 1) pa_nil)) (pa_cons (pe_tup (pa_cons pe_int (pa_cons pe_int (pa_cons pe_int pa_nil)))) (pa_cons (pe_tup (pa_cons pe_int (pa_cons pe_int (pa_cons pe_int pa_nil)))) (pa_cons (pe_tup (pa_cons pe_int (pa_cons pe_int (pa_cons pe_int pa_nil)))) (pa_cons (pe_tup (pa_cons pe_int (pa_cons pe_int (pa_cons pe_int pa_nil)))) pa_nil)))))) pa_nil))))
      (pss_cons (ps_setLc (i := 4) (own := [("_law_again", 9)]) (by rfl) sc_law.nd rfl rfl (sw_true rfl rfl rfl (by decide +kernel)) (pi_range1 (by rfl) T.n_range (pa_cons pe_int pa_nil)) (blkOk_by (by rfl)) (fun _ _ _ _ _ => pg_name (i := 9) sc_law.nd rfl (by first | exact Or.inl rfl | exact Or.inr rfl)) (fun _ _ _ _ _ => pts_nil) (fun _ _ _ _ _ => (pe_tup (pa_cons (pe_op op_add pe_int (pe_call G__law_draw (hr.mono (by decide)) (by rfl) T.g__law_draw k__law_draw b__law_draw .nil pass0 (pa_cons (pv 1) (pa_cons pe_int pa_nil)))) (pa_cons (pe_op op_add pe_int (pe_call G__law_draw (hr.mono (by decide)) (by rfl) T.g__law_draw k__law_draw b__law_draw .nil pass0 (pa_cons (pv 1) (pa_cons pe_int pa_nil)))) (pa_cons (pe_op op_sub (pe_call G__law_draw (hr.mono (by decide)) (by rfl) T.g__law_draw k__law_draw b__law_draw .nil pass0 (pa_cons (pv 1) (pa_cons pe_int pa_nil))) pe_int) pa_nil))))))
      (pss_cons (ps_par (i := 6) (j := 7) (by rfl) sc_law.nd rfl rfl (by decide) rfl rfl (pa_cons (pe_call G__law_rule (hr.mono (by decide)) (by rfl) T.g__law_rule k__law_rule b__law_rule .nil pass0 (pa_cons (pe_slice sl_tupA (pv 3) po_none (po_some pe_int)) pa_nil)) (pa_cons (pe_call G__law_pick (hr.mono (by decide)) (by rfl) T.g__law_pick k__law_pick b__law_pick .nil pass0 (pa_cons (pv 1) (pa_cons (pe_lst (pa_cons pe_str (pa_cons pe_str pa_nil))) pa_nil))) pa_nil)) (by rfl))
      (pss_one (ps_for PassesOwn.never rfl (pi_range2 (by rfl) T.n_range (pa_cons pe_int (pa_cons pe_int pa_nil))) (pg_name (i := 5) sc_law.nd rfl (by first | exact Or.inl rfl | exact Or.inr rfl)) (pss_one (ps_for PassesOwn.never rfl (pi_range2 (by rfl) T.n_range (pa_cons (pe_meth (pv 6) T.c_TryRule T.m_TryRule_greatest G_WeightRule_greatest (hr.mono (by decide)) b_WeightRule_greatest .nil pass0 (pa_cons (pv 5) pa_nil)) (pa_cons (pe_op op_add (pe_meth (pv 6) T.c_TryRule T.m_TryRule_greatest G_WeightRule_greatest (hr.mono (by decide)) b_WeightRule_greatest .nil pass0 (pa_cons (pe_op op_add (pv 5) pe_int) pa_nil)) pe_int) pa_nil))) (pg_name (i := 8) sc_law.nd rfl (by first | exact Or.inl rfl | exact Or.inr rfl)) (pss_one (ps_if (pt_not (pt_val (pe_call G__law_pair_right (hr.mono (by decide)) (by rfl) T.g__law_pair_right k__law_pair_right b__law_pair_right .nil pass0 (pa_cons (pv 3) (pa_cons (pv 4) (pa_cons (pv 7) (pa_cons (pv 5) (pa_cons (pv 8) pa_nil)))))))) (pss_one (ps_ret pe_bl)) pss_nil))))))))))
      (pss_one (ps_ret pe_bl)))), ?_⟩
  walk_at "run"
  refine u_pen hS fun pen c H1 e1 hP0 => ?_
  walk_at "go"
  refine for_range (lo := 0) (n := Int.toNat 3) (fun i σ' H' => ∃ u2 u3 u4 u5 u6 u7 u8 u9, σ' = [some (.ref a), some (.ref pen), u2, u3, u4, u5, u6, u7, u8, u9] ∧ Pen H' pen c (20 * (i : Int)))
    ⟨none, none, none, none, none, none, none, none, rfl, hP0.le (by omega)⟩ (fun i σ' H2 hi hI => ?_) (fun σ' H2 hI => ?_)
  · obtain ⟨u2, u3, u4, u5, u6, u7, u8, u9, rfl, hP2⟩ := hI
    have hi3 : (i : Int) < 3 := by
      have : i < 3 := hi
      omega
    walk_at "go"
    rename_i a1 R1 t1 s1 r1 H3 px3 hS3 ok3 hT3 hP3 p4 H4 hn4 e4 h4 p5 H5 hn5 e5 h5 p6 H6 hn6 e6 h6 p7 H7 hn7 e7 h7 l8 H8 hn8 e8 h8 v H9 px9 hv hP9
    have hsome : SomeAt K H9 v := by
      refine SomeAt.mono px9.n ?_
      simp only [List.mem_cons, List.not_mem_nil, or_false] at hv
      rcases hv with rfl | rfl | rfl | rfl | rfl
      · exact ⟨a1, R1, [R1.p, R1.q, R1.k, t1, s1, r1], rfl, by show SqT K _ _ [V.int R1.p, V.int R1.q, V.int R1.k, V.int t1, V.int s1, V.int r1]; walk_at "kn", c3_six R1 t1 s1 r1, ok3, hT3⟩
      · exact some_three ⟨2, 1, 0, none⟩ ok_210 rfl (by walk_at "kn")
      · exact some_three ⟨1, 1, 1, none⟩ ok_111 rfl (by walk_at "kn")
      · exact some_three ⟨3, 2, 1, none⟩ ok_321 rfl (by walk_at "kn")
      · exact some_three ⟨5, 3, 1, none⟩ ok_531 rfl (by walk_at "kn")
    obtain ⟨as, R, xs, rfl, hSs, hC, ok, hT⟩ := hsome
    refine lcPen (K := K) (lo := 0) (Int.toNat 3) (by decide) hP9 (fun i' G1 Qk hi' px' hP' qk => ?_) fun D HD ys rows hD pxD hPD hys a2 => ?_
    · have hi4 : (i' : Int) < 3 := by
        have : i' < 3 := hi'
        omega
      refine k_name ⟨rfl, ?_⟩
      walk_at "go"
      rename_i d1 G2 py2 hd1 hQ2 d2 G3 py3 hd2 hQ3 d3 G4 py4 hd3 hQ4 tp G5 hn5 ee5 hh5
      refine qk _ _ ?_ ((hQ4.mono ee5).le (by omega)) ⟨(1 + d1, 1 + d2, d3 - 6), ⟨_, rfl, SqT.of hh5⟩, ⟨by dsimp only; omega, by dsimp only; omega, by dsimp only; omega, by dsimp only; omega, by dsimp only; omega, by dsimp only; omega⟩⟩
      walk_at "px"
    · walk_at "go"
      refine k_slT (pxD.t hSs) hC.1 hC.2 fun lA HA eA hA => ?_
      walk_at "go"
      refine u_rule (xs := [R.p, R.q, R.k]) hA ok (.inl ⟨hT, rfl⟩) fun rr HB eB hR => ?_
      walk_at "go"
      rename_i lC HL hnL eL hL v2 HC pxC hvC hPC
      obtain ⟨pt, rfl⟩ : ∃ pt, v2 = .str (dS pt) := by
        simp only [List.mem_cons, List.not_mem_nil, or_false] at hvC
        rcases hvC with rfl | rfl
        · exact ⟨true, rfl⟩
        · exact ⟨false, rfl⟩
      have hSC : SqT K HC as (xs.map V.int) := pxC.t (ex_t eL (ex_t eB (ex_t eA (pxD.t hSs))))
      have hRC : RuleI K HC rr R := pxC.rule (hR.mono eL)
      have hIC : Ins HC rr (He.ga K "TryRule") "greatest" := rC_try hT ▸ hRC.g
      have hDC : HC D = some (.lst ys) := pxC.m _ _ (hP9.ne hD) (eL _ _ (eB _ _ (eA _ _ hys)))
      have aC : All2 (RwT K) rows ys HC := a2.mono fun _ _ r => r.mono (((ExN.of eA).trans (ExN.of eB)).trans ((ExN.of eL).trans pxC.n))
      clear hvC hv
      refine for_range (lo := 1) (n := (6 - 1 : Int).toNat) (fun i' σ' H' => ∃ u5 u8, σ' = [some (.ref a), some (.ref pen), some (.int (0 + i)), some (.ref as), some (.ref D), u5, some (.ref rr), some (.str (dS pt)), u8, u9] ∧ Ex HC H')
        ⟨_, _, rfl, Ex.refl _⟩ (fun i' σ' HE hi' hI => ?_) (fun σ' HE hI => ?_)
      · obtain ⟨u5', u8', rfl, eE⟩ := hI
        have hi5 : (i' : Int) < 5 := by
          have : i' < 5 := hi'
          omega
        have b1 := b_bd ok (show 1 ≤ 1 + (i' : Int) by omega) (by omega)
        have b2 := b_bd ok (show 1 ≤ 1 + (i' : Int) + 1 by omega) (by omega)
        walk_at "go"
        rename_i HF eF HG eG
        have eCG : Ex HC HG := (eE.trans eF).trans eG
        refine for_range (lo := R.b (1 + (i' : Int))) (n := (R.b (1 + (i' : Int) + 1) + 2 - R.b (1 + (i' : Int))).toNat) (fun i'' σ' H' => ∃ u8, σ' = [some (.ref a), some (.ref pen), some (.int (0 + i)), some (.ref as), some (.ref D), some (.int (1 + i')), some (.ref rr), some (.str (dS pt)), u8, u9] ∧ Ex HC H')
          ⟨_, rfl, eCG⟩ (fun i'' σ' HK hi'' hI => ?_) (fun σ' HK hI => ?_)
        · obtain ⟨u8'', rfl, eK⟩ := hI
          have hi6 : (i'' : Int) < R.b (1 + (i' : Int) + 1) + 2 - R.b (1 + (i' : Int)) := by omega
          walk_at "go"
          refine u_pair_right (ex_t eK hSC) hC ok hT (eK _ _ hDC) (aC.mono fun _ _ r => r.mono (.of eK)) ⟨⟨by omega, by omega⟩, by omega, by omega⟩ fun HM eM => ?_
          walk_at "go"
          exact ⟨_, rfl, eK.trans eM⟩
        · obtain ⟨u8'', rfl, eK⟩ := hI
          exact ⟨_, _, rfl, eK⟩
      · obtain ⟨u5', u8', rfl, eE⟩ := hI
        exact ⟨_, _, _, _, _, _, _, _, rfl, (hPC.mono eE).le (by omega)⟩
  · obtain ⟨u2, u3, u4, u5, u6, u7, u8, u9, rfl, hP2⟩ := hI
    walk_at "go"
    exact q _

end
end M
namespace M
namespace Hd
open PySem PySem.Spec PyProof.Rows L2 Evl
theorem gloB_ok {K : Fr} {h : Heap} {mg : Str → Option Value} (X : K.In h) (G : h.Ns mainGlobals mg) {x : Str} (c : gloB x K = true) : mg x = some (.ref (He.ga K x)) := He.glo_ok X G c
theorem freeB_ok {K : Fr} {h : Heap} {mg : Str → Option Value} (X : K.In h) (G : h.Ns mainGlobals mg) {x : Str} (c : freeB x K = true) : mg x = none := He.free_ok X G c
theorem intB_ok {K : Fr} {h : Heap} {mg : Str → Option Value} (X : K.In h) (G : h.Ns mainGlobals mg) {x : Str} {i : Int} (c : intB x i K = true) : ∃ t, mg x = some (.int i t) := He.int_ok X G c
theorem clsB_ok {K : Fr} {x : Str} (c : clsB x K = true) : Cls K (He.ga K x) := He.cls_ok c
theorem noatB_ok {K : Fr} {x f : Str} (c : noatB x f K = true) : NoAttr K (He.ga K x) f := He.noat_ok c
theorem mkB_ok {K : Fr} {x : Str} (c : mkB x K = true) : Mk K (He.ga K x) (He.ma K (He.ga K x) "__init__") := He.mkr_ok c
theorem sup_end {K : Fr} {x : Str} {d : DX} (c : supB x PX.main.file K = true) (s : d.see K = d.val ∧ d.ok K = true) (hat : d.at_ = iA x) (hc : d.cells = [("__class__" : Str)]) (par : ∃ ar : Arg, (d.params.posonlyargs ++ d.params.args).head? = some ar ∧ ar.arg = "self") (top : (PX.main.scope.names.lookup ("super" : Str)).isSome = false) :
    ∃ fd cc cda, FunS K d.name d.qual d.params d.body d.scope cc cda d.dfl d.kwd (He.ma K (He.ga K x) "__init__") fd ∧ SupK PX K (He.ga K x) (He.ga K x) (He.ma K (He.ga K x) "__init__") (He.ma K (He.ga K "WeightRule") "__init__") cc cda fd := by
  have ha : d.at_ K = iA x K := by rw [hat]
  obtain ⟨fd, F, pr, own⟩ := DX.funS s.1 s.2 hc (by rw [ha]; exact sup_cell c)
  rw [ha] at F own
  exact ⟨fd, _, _, F, supB_ok c own (by rw [pr]; exact par) top⟩
theorem tx_of {K : Fr} {h : Heap} {mg : Str → Option Value} (X : K.In h) (G : h.Ns mainGlobals mg) (c : SaysM fxAll fnAll K) : TX K mg where
  most := mostB_ok (c.fact 0 rfl)
  g_is_integer := gloB_ok X G (c.fact 1 rfl)
  g_is_within := gloB_ok X G (c.fact 2 rfl)
  g_is_times := gloB_ok X G (c.fact 3 rfl)
  g_need_plus := gloB_ok X G (c.fact 4 rfl)
  g_need_weight := gloB_ok X G (c.fact 5 rfl)
  g_need_weight_rule := gloB_ok X G (c.fact 6 rfl)
  g_need_deed := gloB_ok X G (c.fact 7 rfl)
  g_all_cases := gloB_ok X G (c.fact 8 rfl)
  g_need_case := gloB_ok X G (c.fact 9 rfl)
  g_added := gloB_ok X G (c.fact 10 rfl)
  g_scaled := gloB_ok X G (c.fact 11 rfl)
  g_has_three := gloB_ok X G (c.fact 12 rfl)
  g_fair_tests := gloB_ok X G (c.fact 13 rfl)
  g_unfair_test := gloB_ok X G (c.fact 14 rfl)
  g_turn_tests := gloB_ok X G (c.fact 15 rfl)
  g_break_test := gloB_ok X G (c.fact 16 rfl)
  g_tests_in := gloB_ok X G (c.fact 17 rfl)
  g_numbers_break := gloB_ok X G (c.fact 18 rfl)
  g_over := gloB_ok X G (c.fact 19 rfl)
  g_heavy_weights := gloB_ok X G (c.fact 20 rfl)
  g_wrong_at := gloB_ok X G (c.fact 21 rfl)
  g_breaks := gloB_ok X G (c.fact 22 rfl)
  g__law_pen := gloB_ok X G (c.fact 23 rfl)
  g__law_draw := gloB_ok X G (c.fact 24 rfl)
  g__law_pick := gloB_ok X G (c.fact 25 rfl)
  g__law_numbers := gloB_ok X G (c.fact 26 rfl)
  g__law_rule := gloB_ok X G (c.fact 27 rfl)
  g__law_carried := gloB_ok X G (c.fact 28 rfl)
  g__law_pair_right := gloB_ok X G (c.fact 29 rfl)
  g_law := gloB_ok X G (c.fact 30 rfl)
  g_WeightRule := gloB_ok X G (c.fact 31 rfl)
  g_TurnRule := gloB_ok X G (c.fact 32 rfl)
  g_TryRule := gloB_ok X G (c.fact 33 rfl)
  g_Test := gloB_ok X G (c.fact 34 rfl)
  g_Case := gloB_ok X G (c.fact 35 rfl)
  g_Forms := gloB_ok X G (c.fact 36 rfl)
  g_Pair := gloB_ok X G (c.fact 37 rfl)
  g_Wrong := gloB_ok X G (c.fact 38 rfl)
  g_DEEDS := gloB_ok X G (c.fact 39 rfl)
  g_ONCE := gloB_ok X G (c.fact 40 rfl)
  g_INNER := gloB_ok X G (c.fact 41 rfl)
  g_TWICE := gloB_ok X G (c.fact 42 rfl)
  g_MOST_PLUS := intB_ok X G (c.fact 43 rfl)
  g_MOST_TURN := intB_ok X G (c.fact 44 rfl)
  g_MOST_WEIGHT := intB_ok X G (c.fact 45 rfl)
  g_MOST_PARTS := intB_ok X G (c.fact 46 rfl)
  g_MOST_ASKED := intB_ok X G (c.fact 47 rfl)
  n_isinstance := freeB_ok X G (c.fact 48 rfl)
  n_int := freeB_ok X G (c.fact 49 rfl)
  n_bool := freeB_ok X G (c.fact 50 rfl)
  n_str := freeB_ok X G (c.fact 51 rfl)
  n_list := freeB_ok X G (c.fact 52 rfl)
  n_tuple := freeB_ok X G (c.fact 53 rfl)
  n_len := freeB_ok X G (c.fact 54 rfl)
  n_min := freeB_ok X G (c.fact 55 rfl)
  n_max := freeB_ok X G (c.fact 56 rfl)
  n_abs := freeB_ok X G (c.fact 57 rfl)
  n_sum := freeB_ok X G (c.fact 58 rfl)
  n_all := freeB_ok X G (c.fact 59 rfl)
  n_range := freeB_ok X G (c.fact 60 rfl)
  n_zip := freeB_ok X G (c.fact 61 rfl)
  n_super := freeB_ok X G (c.fact 62 rfl)
  F_is_integer := c.def_ 0 (fn := fnAll) rfl rfl
  F_is_within := c.def_ 1 (fn := fnAll) rfl rfl
  F_is_times := c.def_ 2 (fn := fnAll) rfl rfl
  F_need_plus := c.def_ 3 (fn := fnAll) rfl rfl
  F_need_weight := c.def_ 4 (fn := fnAll) rfl rfl
  F_need_weight_rule := c.def_ 5 (fn := fnAll) rfl rfl
  F_need_deed := c.def_ 6 (fn := fnAll) rfl rfl
  F_all_cases := c.def_ 7 (fn := fnAll) rfl rfl
  F_need_case := c.def_ 8 (fn := fnAll) rfl rfl
  F_added := c.def_ 9 (fn := fnAll) rfl rfl
  F_scaled := c.def_ 10 (fn := fnAll) rfl rfl
  F_has_three := c.def_ 11 (fn := fnAll) rfl rfl
  F_fair_tests := c.def_ 12 (fn := fnAll) rfl rfl
  F_unfair_test := c.def_ 13 (fn := fnAll) rfl rfl
  F_turn_tests := c.def_ 14 (fn := fnAll) rfl rfl
  F_break_test := c.def_ 15 (fn := fnAll) rfl rfl
  F_tests_in := c.def_ 16 (fn := fnAll) rfl rfl
  F_numbers_break := c.def_ 17 (fn := fnAll) rfl rfl
  F_over := c.def_ 18 (fn := fnAll) rfl rfl
  F_heavy_weights := c.def_ 19 (fn := fnAll) rfl rfl
  F_wrong_at := c.def_ 20 (fn := fnAll) rfl rfl
  F_breaks := c.def_ 21 (fn := fnAll) rfl rfl
  F__law_pen := c.def_ 22 (fn := fnAll) rfl rfl
  F__law_draw := c.def_ 23 (fn := fnAll) rfl rfl
  F__law_pick := c.def_ 24 (fn := fnAll) rfl rfl
  F__law_numbers := c.def_ 25 (fn := fnAll) rfl rfl
  F__law_rule := c.def_ 26 (fn := fnAll) rfl rfl
  F__law_carried := c.def_ 27 (fn := fnAll) rfl rfl
  F__law_pair_right := c.def_ 28 (fn := fnAll) rfl rfl
  F_law := c.def_ 29 (fn := fnAll) rfl rfl
  F_WeightRule_init := c.def_ 30 (fn := fnAll) rfl rfl
  F_WeightRule_need_numbers := c.def_ 31 (fn := fnAll) rfl rfl
  F_WeightRule_beside := c.def_ 32 (fn := fnAll) rfl rfl
  F_WeightRule_greatest := c.def_ 33 (fn := fnAll) rfl rfl
  F_Test_init := c.def_ 34 (fn := fnAll) rfl rfl
  F_Test_amount := c.def_ 35 (fn := fnAll) rfl rfl
  F_Test_call := c.def_ 36 (fn := fnAll) rfl rfl
  F_Case_init := c.def_ 37 (fn := fnAll) rfl rfl
  F_Case_eq := c.def_ 38 (fn := fnAll) rfl rfl
  F_Forms_init := c.def_ 39 (fn := fnAll) rfl rfl
  F_Forms_heavy_form := c.def_ 40 (fn := fnAll) rfl rfl
  F_Forms_sides := c.def_ 41 (fn := fnAll) rfl rfl
  F_Pair_init := c.def_ 42 (fn := fnAll) rfl rfl
  F_Pair_inner_stretch := c.def_ 43 (fn := fnAll) rfl rfl
  F_Pair_turned_stretch := c.def_ 44 (fn := fnAll) rfl rfl
  F_Pair_once_stretch := c.def_ 45 (fn := fnAll) rfl rfl
  F_Pair_near_stretch := c.def_ 46 (fn := fnAll) rfl rfl
  F_Pair_near_for := c.def_ 47 (fn := fnAll) rfl rfl
  F_Pair_stretch_of := c.def_ 48 (fn := fnAll) rfl rfl
  F_Pair_can_break := c.def_ 49 (fn := fnAll) rfl rfl
  F_Pair_numbers_for := c.def_ 50 (fn := fnAll) rfl rfl
  F_Wrong_init := c.def_ 51 (fn := fnAll) rfl rfl
  c_TryRule := clsB_ok (c.fact 63 rfl)
  ty_TryRule := tyB_ok (c.fact 64 rfl)
  na_TryRule_times := noatB_ok (c.fact 65 rfl)
  na_TryRule_plus := noatB_ok (c.fact 66 rfl)
  m_TryRule_beside := methB_ok (c.fact 67 rfl)
  m_TryRule_greatest := methB_ok (c.fact 68 rfl)
  c_TurnRule := clsB_ok (c.fact 69 rfl)
  ty_TurnRule := tyB_ok (c.fact 70 rfl)
  na_TurnRule_times := noatB_ok (c.fact 71 rfl)
  na_TurnRule_plus := noatB_ok (c.fact 72 rfl)
  na_TurnRule_turn := noatB_ok (c.fact 73 rfl)
  na_TurnRule_turn_plus := noatB_ok (c.fact 74 rfl)
  m_TurnRule_beside := methB_ok (c.fact 75 rfl)
  m_TurnRule_greatest := methB_ok (c.fact 76 rfl)
  c_Test := clsB_ok (c.fact 77 rfl)
  ty_Test := tyB_ok (c.fact 78 rfl)
  na_Test_parts := noatB_ok (c.fact 79 rfl)
  na_Test_bound := noatB_ok (c.fact 80 rfl)
  m_Test_amount := methB_ok (c.fact 81 rfl)
  c_Case := clsB_ok (c.fact 82 rfl)
  ty_Case := tyB_ok (c.fact 83 rfl)
  na_Case_deed := noatB_ok (c.fact 84 rfl)
  na_Case_once := noatB_ok (c.fact 85 rfl)
  na_Case_twice := noatB_ok (c.fact 86 rfl)
  c_Forms := clsB_ok (c.fact 87 rfl)
  ty_Forms := tyB_ok (c.fact 88 rfl)
  na_Forms_units := noatB_ok (c.fact 89 rfl)
  na_Forms_light := noatB_ok (c.fact 90 rfl)
  na_Forms_outer := noatB_ok (c.fact 91 rfl)
  na_Forms_near := noatB_ok (c.fact 92 rfl)
  na_Forms_far := noatB_ok (c.fact 93 rfl)
  na_Forms_inner := noatB_ok (c.fact 94 rfl)
  m_Forms_heavy_form := methB_ok (c.fact 95 rfl)
  m_Forms_sides := methB_ok (c.fact 96 rfl)
  c_Pair := clsB_ok (c.fact 97 rfl)
  ty_Pair := tyB_ok (c.fact 98 rfl)
  na_Pair_rule := noatB_ok (c.fact 99 rfl)
  na_Pair_p := noatB_ok (c.fact 100 rfl)
  na_Pair_q := noatB_ok (c.fact 101 rfl)
  na_Pair_more := noatB_ok (c.fact 102 rfl)
  na_Pair_light := noatB_ok (c.fact 103 rfl)
  na_Pair_heavy := noatB_ok (c.fact 104 rfl)
  m_Pair_inner_stretch := methB_ok (c.fact 105 rfl)
  m_Pair_turned_stretch := methB_ok (c.fact 106 rfl)
  m_Pair_once_stretch := methB_ok (c.fact 107 rfl)
  m_Pair_near_stretch := methB_ok (c.fact 108 rfl)
  m_Pair_near_for := methB_ok (c.fact 109 rfl)
  m_Pair_stretch_of := methB_ok (c.fact 110 rfl)
  m_Pair_can_break := methB_ok (c.fact 111 rfl)
  m_Pair_numbers_for := methB_ok (c.fact 112 rfl)
  c_Wrong := clsB_ok (c.fact 113 rfl)
  ty_Wrong := tyB_ok (c.fact 114 rfl)
  na_Wrong_deed := noatB_ok (c.fact 115 rfl)
  na_Wrong_once := noatB_ok (c.fact 116 rfl)
  na_Wrong_twice := noatB_ok (c.fact 117 rfl)
  na_Wrong_numbers := noatB_ok (c.fact 118 rfl)
  mk_Test := mkB_ok (c.fact 119 rfl)
  mk_Case := mkB_ok (c.fact 120 rfl)
  mk_Forms := mkB_ok (c.fact 121 rfl)
  mk_Pair := mkB_ok (c.fact 122 rfl)
  mk_Wrong := mkB_ok (c.fact 123 rfl)
  mk_TryRule := mkB_ok (c.fact 124 rfl)
  mk_TurnRule := mkB_ok (c.fact 125 rfl)
  k_TryRule_WeightRule := kitB_ok (c.fact 126 rfl)
  k_TurnRule_WeightRule := kitB_ok (c.fact 127 rfl)
  k_TryRule_TurnRule := kitB_ok (c.fact 128 rfl)
  k_TurnRule_TurnRule := kitB_ok (c.fact 129 rfl)
  k_Case_Case := kitB_ok (c.fact 130 rfl)
  callO := ⟨(callB_ok (c.fact 131 rfl)).1, (callB_ok (c.fact 131 rfl)).2.1, (callB_ok (c.fact 131 rfl)).2.2⟩
  eqF := ⟨(callB_ok (c.fact 132 rfl)).1, (callB_ok (c.fact 132 rfl)).2.1⟩
  t_DEEDS := tupAt_ok (c.fact 133 rfl)
  t_INNER := tupAt_ok (c.fact 134 rfl)
  t_ONCE := tupAt_ok (c.fact 135 rfl)
  t_ONCE0 := tupAt_ok (c.fact 136 rfl)
  t_ONCE1 := tupAt_ok (c.fact 137 rfl)
  t_ONCE2 := tupAt_ok (c.fact 138 rfl)
  t_ONCE3 := tupAt_ok (c.fact 139 rfl)
  t_TWICE := tupAt_ok (c.fact 140 rfl)
  t_TWICE0 := tupAt_ok (c.fact 141 rfl)
  t_TWICE1 := tupAt_ok (c.fact 142 rfl)
  t_TWICE2 := tupAt_ok (c.fact 143 rfl)
  t_TWICE3 := tupAt_ok (c.fact 144 rfl)
  t_TWICE4 := tupAt_ok (c.fact 145 rfl)
  t_TWICE5 := tupAt_ok (c.fact 146 rfl)
  t_TWICE6 := tupAt_ok (c.fact 147 rfl)
theorem tr_of {K : Fr} (c : SaysM fxAll fnAll K) : TR PX K where
  nn_TryRule := statB_ok (c.fact 148 rfl)
  nn_TurnRule := statB_ok (c.fact 149 rfl)
  s_TryRule := sup_end (x := "TryRule") (c.fact 150 rfl) (c.see 52 (fn := fnAll) rfl) rfl rfl ⟨_, rfl, rfl⟩ (by kernel_rfl)
  s_TurnRule := sup_end (x := "TurnRule") (c.fact 151 rfl) (c.see 53 (fn := fnAll) rfl) rfl rfl ⟨_, rfl, rfl⟩ (by kernel_rfl)
end Hd
end M
open PySem PySem.W PySem.Calls PyProof.Rows
namespace M
namespace Hd
open PySem PySem.Spec PyProof.Rows L2 Evl
theorem law_fn {w : World} {K : PySem.W.Frag} {h : Heap} {mg : Str → Option Value} (X : K.In h) (G : h.Ns mainGlobals mg) (c : SaysM fxAll fnAll K) {fa : Addr} (hfa : mg "law" = some (.ref fa)) :
    ∃ fd : FuncData, (∀ (s : Shared) (v : Value), BindsTo s fd ⟨[v], []⟩ [("_law_script", v)]) ∧ ∀ base : Heap, K.In base → base.Ns mainGlobals mg → FnOk PX w K mg base CX0 17 fa fd ["_law_script"] (sp_law K) := by
  have T := tx_of X G c
  have T2 := tr_of c
  have e := hfa.symm.trans T.g_law
  cases e
  obtain ⟨fd, F⟩ := T.F_law
  have b := FunD.bindsA (ps := ["_law_script"]) F fun _ _ _ _ _ _ us hl => match us, hl with | [_], _ => rfl
  exact ⟨fd, fun s v => b s [v] rfl, fun base _ _ => ok_law T T2 F⟩
end Hd
end M
open PySem PySem.W PySem.Calls PyProof.Rows
theorem PySem.Challenge.cw_evenrules_k64_whole_try_rules_and_turn_r_holds : PySem.Challenge.rw_evenrules_k64_whole_try_rules_and_turn_r.Holds := by
  refine M.Hd.head ?_
  refine L2.walk_ofE (l := PySem.Challenge.rw_evenrules_k64_whole_try_rules_and_turn_r) (n := 63) (k := 17) (x := "_law_script") (CX := L2.CX0) rfl (by decide) (by kernel_rfl) ⟨rfl, by decide, by decide⟩ ?F (fun _ _ _ _ z => z)
  intro w mg fa h Y G hmg0
  obtain ⟨K, KX, c⟩ := Y
  have hmg : mg ("law" : PySem.Str) = some (.ref fa) := by
    have e : (HandSHeadRun.topDef (OpenLaw.row PySem.Challenge.rw_evenrules_k64_whole_try_rules_and_turn_r).prog 74).name = ("law" : PySem.Str) := by kernel_rfl
    rw [← e]
    exact hmg0
  obtain ⟨fd, hb, hF⟩ := M.Hd.law_fn (w := w) KX G c hmg
  exact ⟨K, fd, M.sp_law K, KX, hb, fun H a ns hl _ hS => ⟨a, ns, rfl, hS, fun _ => rfl⟩, hF⟩
