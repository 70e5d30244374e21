import PyProof.Rows.All
import Wide.All
import OpenK.AllK
import Wide.FinOn
import HandS.ForMost
import HandS.ForExc
import HandS.IsInst
import HandS.Wide
import HandS.TryOnly
import PySem.Challenge.RW_ownchain_k33_rows_meant
set_option Elab.async false
set_option linter.all false
set_option maxRecDepth 100000
set_option maxHeartbeats 8000000
set_option Elab.async false
set_option linter.all false
set_option maxRecDepth 100000
set_option maxHeartbeats 4000000
/-! Step lemmas over the hand layer's readings: each goal of a reading is turned by one lemma. -/
namespace Z
open PySem PySem.Spec PyProof.Rows L2

/-! ### universal rules: by the values -/
section
variable {X : Cx}
def rFdv : R2 := rI (fun _ j => j ≠ 0 ∧ j.natAbs.log2 < 9000) fun i j => .int (i.fdiv j)
theorem op_fdv : OpR X (binaryOp .FloorDiv) rFdv := opI fun i j _ _ _ _ _ hc q => floordiv_int hc.1 q (.inl (PyProof.noPylong_of_log2 hc.2))
def rMod : R2 := rI (fun _ j => j ≠ 0) fun i j => .int (i.fmod j)
theorem op_md : OpR X (binaryOp .Mod) rMod := op_modN
def rMul : R2 := rI (fun i j => CMul i j ∨ CMulW i j) fun i j => .int (i * j)
theorem op_ml : OpR X (binaryOp .Mult) rMul := opI fun _ _ _ _ _ _ _ hc q => mul_int q (hc.elim CMul.ok CMulW.ok)
def rAddI : R2 := rI0 fun i j => .int (i + j)
def rAddS : R2 := fun x y H Q => ∃ i j, x = .str i ∧ y = .str j ∧ i.length + j.length ≤ sizeLine ∧ Q (.str (i ++ j)) H
def rAddU (K : PySem.W.Frag) : R2 := fun x y H Q => rAddI x y H Q ∨ rAddS x y H Q ∨ rCat x y H Q ∨ rCatT K x y H Q
theorem op_addU : OpR X (binaryOp .Add) (rAddU X.K) := OpR.or op_add (OpR.or op_add_str (OpR.or op_cat op_catT))
def rEqU (K : PySem.W.Frag) : R2 := fun x y H Q => rEq x y H Q ∨ rEqD K x y H Q
theorem op_eqU (hu : X.A.units + 64 < cLine) : OpR X (compareOp .Eq) (rEqU X.K) := OpR.or op_eq (op_eqD hu)
def rNeU (K : PySem.W.Frag) : R2 := fun x y H Q => rNe x y H Q ∨ rNeD K x y H Q
theorem op_neU (hu : X.A.units + 64 < cLine) : OpR X (compareOp .NotEq) (rNeU X.K) := OpR.or op_ne (op_neD hu)
def rLen (K : PySem.W.Frag) : List V → Hp → VK → Prop := fun xs H Q => ∃ p ys, xs = [.ref p] ∧ (SqL K H p ys ∨ SqT K H p ys) ∧ Q (.int ys.length) H
theorem call_len' : CallR X (.builtin "len") (rLen X.K) := call_len_seq
def rMin2 : List V → Hp → VK → Prop := fun xs H Q => ∃ i j, xs = [.int i, .int j] ∧ Q (.int (if j < i then j else i)) H
theorem call_min' (hc : X.calm = true) : CallR X (.builtin "min") rMin2 := call_min2 hc
def rMax2 : List V → Hp → VK → Prop := fun xs H Q => ∃ i j, xs = [.int i, .int j] ∧ Q (.int (if j > i then j else i)) H
theorem call_max' (hc : X.calm = true) : CallR X (.builtin "max") rMax2 := call_max2 hc
def rListOf (K : PySem.W.Frag) : List V → Hp → VK → Prop := fun xs H Q => ∃ p ys, xs = [.ref p] ∧ (SqL K H p ys ∨ SqT K H p ys) ∧ ∀ l, H l = none → Q (.ref l) (upd H l (.lst ys))
theorem call_list' : CallR X (.type "list") (rListOf X.K) := call_list_of
def rTupOf (K : PySem.W.Frag) : List V → Hp → VK → Prop := fun xs H Q => ∃ p ys, xs = [.ref p] ∧ ((SqL K H p ys ∧ ∀ l, H l = none → Q (.ref l) (upd H l (.tup ys))) ∨ (SqT K H p ys ∧ Q (.ref p) H))
theorem call_tuple' : CallR X (.type "tuple") (rTupOf X.K) := call_tuple_of
def rInt1 : List V → Hp → VK → Prop := fun xs H Q => (∃ i, xs = [.int i] ∧ Q (.int i) H) ∨ ∃ k, xs = [.bl k] ∧ Q (.int (if k then 1 else 0)) H
theorem call_int' : CallR X (.type "int") rInt1 := call_int1
def rAbs : List V → Hp → VK → Prop := fun xs H Q => ∃ i, xs = [.int i] ∧ Q (.int (if i < 0 then -i else i)) H
theorem call_abs' : CallR X (.builtin "abs") rAbs := call_abs
def rStrI : List V → Hp → VK → Prop := fun xs H Q => ∃ i, xs = [.int i] ∧ i.natAbs.log2 < 1920 ∧ Q (.str (toString i)) H
theorem call_str' : CallR X (.type "str") rStrI := call_str_int
def rIsNz : R2 := fun x y H Q => y = .non ∧ Q (.bl (decide (x = .non))) H
theorem op_isNz : OpR X (compareOp .Is) rIsNz := op_isN
def rNotNz : R2 := fun x y H Q => y = .non ∧ Q (.bl (!decide (x = .non))) H
theorem op_notNz : OpR X (compareOp .IsNot) rNotNz := op_notN
/-- a, b = a tuple or a list -/
def gUn (K : PySem.W.Frag) (n : Nat) (t : TGs) : TG := fun v σ H Q => gTup K n t v σ H Q ∨ gLst K n t v σ H Q
theorem pg_un {pos : Pos} {es : List Expr} {k : Nat} {t : TGs} {n : Nat} (hc : X.calm = true) (h : PGs X es t)
    (hn : (assignEach es X.env).length = n := by rfl) (hst : (assignEach es X.env).findIdx? (·.1) = none := by rfl) : PG X (.Tuple es k pos) (gUn X.K n t) :=
  ⟨fun pins s σ H v u Q I r hw => hw.elim (fun z => (pg_tup hc h hn hst).run pins s σ H v u Q I r z) fun z => (pg_lst hc h hn hst).run pins s σ H v u Q I r z⟩
def rIsi2 (K : PySem.W.Frag) : List V → Hp → VK → Prop := fun xs H Q => rIsi K xs H Q ∨ rIsiT K xs H Q
theorem call_isi' : CallR X (.builtin "isinstance") (rIsi2 X.K) := fun pins s σ H vs us Q I r h => h.elim (fun z => call_isi pins s σ H vs us Q I r z) (fun z => call_isiT pins s σ H vs us Q I r z)
end

/-! ### parts of readings by name -/
def zB (x : V) (H : Hp) (Q : Bool → Hp → Prop) : Prop := ∃ k, x = .bl k ∧ Q k H
def zTup (xs : List V) (H : Hp) (Q : VK) : Prop := xs.length ≤ sizeLine ∧ ∀ p, H p = none → Q (.ref p) (upd H p (.tup xs))
def zLst (xs : List V) (H : Hp) (Q : VK) : Prop := xs.length ≤ sizeLine ∧ ∀ p, H p = none → Q (.ref p) (upd H p (.lst xs))
def zIf (k : Bool) (A B : Prop) : Prop := if k = true then A else B
def zDGet (x y : V) (H : Hp) (Q : VK) : Prop := ∃ a v, x = .ref a ∧ DGet H a y (some v) ∧ Q v H
def zDIn (y x : V) (H : Hp) (Q : VK) : Prop := ∃ a o, x = .ref a ∧ DGet H a y o ∧ Q (.bl o.isSome) H
def zDNotIn (y x : V) (H : Hp) (Q : VK) : Prop := ∃ a o, x = .ref a ∧ DGet H a y o ∧ Q (.bl (!o.isSome)) H
def zDPut (x y v : V) (H : Hp) (N : Hp → Prop) : Prop := ∃ a H4, x = .ref a ∧ DPut H a y v H4 ∧ N H4
def zFld (K : PySem.W.Frag) (x : V) (f : Str) (H : Hp) (Q : VK) : Prop := ∃ a C dx fs v, x = .ref a ∧ H a = some (.ins C dx fs) ∧ Cls K C ∧ NoAttr K C f ∧ fs.lookup f = some v ∧ Q v H
def zTy (K : PySem.W.Frag) (T : String) (x : V) (H : Hp) (N : Prop) : Prop := tyV K T x H ∧ N
def zGTup (K : PySem.W.Frag) (n : Nat) (t : TGs) (v : V) (σ : L2.St) (H : Hp) (Q : L2.St → Hp → Prop) : Prop := ∃ a xs, v = .ref a ∧ (SqT K H a xs ∨ SqL K H a xs) ∧ xs.length = n ∧ t xs σ H Q

section
variable {K : PySem.W.Frag} {σ : L2.St} {H : Hp} {Q : VK} {QB : Bool → Hp → Prop} {QA : List V → Hp → Prop} {N b c : L2.St → Hp → Prop} {r : VK} {ta tb tc te : TE} {t u : TT} {tt tu : TS} {tA : TA} {g : TG} {v w x y : V} {i j : Int} {n : Nat} {p q a : Addr} {xs ys : List V} {rr rr' : R2} {k : Bool} {A B : Prop}

/-! ### statements -/
theorem s_seq (h : tt ⟨tu ⟨N, r, b, c⟩, r, b, c⟩ σ H) : tSeq tt tu ⟨N, r, b, c⟩ σ H := h
theorem s_next (h : N σ H) : tNext ⟨N, r, b, c⟩ σ H := h
theorem s_break (h : b σ H) : tBreak ⟨N, r, b, c⟩ σ H := h
theorem s_cont (h : c σ H) : tCont ⟨N, r, b, c⟩ σ H := h
theorem s_ret (h : te σ H r) : tRet te ⟨N, r, b, c⟩ σ H := h
theorem s_retN (h : r .non H) : tRetN ⟨N, r, b, c⟩ σ H := h
theorem s_drop (h : te σ H fun _ H1 => N σ H1) : tDrop te ⟨N, r, b, c⟩ σ H := h
theorem s_set (h : te σ H fun v H1 => N (σ.set n (some v)) H1) : tAsg te (gName n) ⟨N, r, b, c⟩ σ H := h
theorem s_asg (h : te σ H fun v H1 => g v σ H1 N) : tAsg te g ⟨N, r, b, c⟩ σ H := h
theorem s_if (h : t σ H fun k H1 => zIf k (tt ⟨N, r, b, c⟩ σ H1) (tu ⟨N, r, b, c⟩ σ H1)) : tIfS t tt tu ⟨N, r, b, c⟩ σ H := h
theorem s_dput {td ty tv : TE} (h : tv σ H fun v H1 => td σ H1 fun x H2 => ty σ H2 fun y H3 => zDPut x y v H3 fun H4 => N σ H4) : sDPut td ty tv ⟨N, r, b, c⟩ σ H := h
/-! ### targets -/
theorem s_gname {NN : L2.St → Hp → Prop} (h : NN (σ.set n (some v)) H) : gName n v σ H NN := h
theorem s_gsub {to ti : TE} {ts : TSet} {NN : L2.St → Hp → Prop} (h : to σ H fun o H1 => ti σ H1 fun i H2 => ts o i v H2 fun H3 => NN σ H3) : gSub to ti ts v σ H NN := h
theorem s_gtup {tg : TGs} {NN : L2.St → Hp → Prop} (hs : SqT K H a xs) (hl : xs.length = n) (h : tg xs σ H NN) : gTup K n tg (.ref a) σ H NN := ⟨a, xs, rfl, hs, hl, h⟩
theorem s_gnil {NN : L2.St → Hp → Prop} (h : NN σ H) : gNil [] σ H NN := ⟨rfl, h⟩
theorem s_gcons {t1 : TG} {t2 : TGs} {NN : L2.St → Hp → Prop} (h : t1 v σ H fun σ' H' => t2 xs σ' H' NN) : gCons t1 t2 (v :: xs) σ H NN := ⟨v, xs, rfl, h⟩
/-! ### expressions -/
theorem s_var (h : σ[n]? = some (some v)) (q : Q v H) : tVar n σ H Q := ⟨v, h, q⟩
theorem s_c (q : Q v H) : tC v σ H Q := q
theorem s_op (h : ta σ H fun x H1 => tb σ H1 fun y H2 => rr x y H2 Q) : tOp rr ta tb σ H Q := h
theorem s_un {ru : V → Hp → VK → Prop} (h : ta σ H fun x H1 => ru x H1 Q) : tUn ru ta σ H Q := h
theorem s_cb {rc : List V → Hp → VK → Prop} (h : tA σ H fun vs H1 => rc vs H1 Q) : tCB rc tA σ H Q := h
theorem s_nil (h : QA [] H) : tNil σ H QA := h
theorem s_cons {tr : TA} (h : ta σ H fun x H1 => tr σ H1 fun xs H2 => QA (x :: xs) H2) : tCons ta tr σ H QA := h
theorem s_call {sp : Sp} {E : XK} (h : tA σ H fun vs H1 => sp vs H1 Q E) : tCall sp [] E tA σ H Q := by
  show tA σ H fun vs H1 => sp (vs ++ []) H1 Q E
  simp only [List.append_nil]
  exact h
theorem s_tup (h : tA σ H fun xs H1 => zTup xs H1 Q) : tTup tA σ H Q := h
theorem s_lst (h : tA σ H fun xs H1 => zLst xs H1 Q) : tLst tA σ H Q := h
theorem s_ztup (h : Nat.ble xs.length sizeLine = true) (h2 : ∀ p, H p = none → Q (.ref p) (upd H p (.tup xs))) : zTup xs H Q := ⟨Nat.le_of_ble_eq_true h, h2⟩
theorem s_zlst (h : Nat.ble xs.length sizeLine = true) (h2 : ∀ p, H p = none → Q (.ref p) (upd H p (.lst xs))) : zLst xs H Q := ⟨Nat.le_of_ble_eq_true h, h2⟩
theorem s_test (h : te σ H fun x H1 => zB x H1 QB) : tTest te σ H QB := h
theorem s_B (h : te σ H fun x H1 => zB x H1 QB) : tB te σ H QB := h
theorem s_zB (h : QB k H) : zB (.bl k) H QB := ⟨k, rfl, h⟩
theorem s_and (h : t σ H fun k H1 => zIf k (u σ H1 QB) (QB false H1)) : tAnd t u σ H QB := h
theorem s_or (h : t σ H fun k H1 => zIf k (QB true H1) (u σ H1 QB)) : tOr t u σ H QB := h
theorem s_not (h : t σ H fun k H1 => QB (!k) H1) : tNot t σ H QB := h
theorem s_chain (h : ta σ H fun x H1 => tb σ H1 fun y H2 => rr x y H2 fun z H3 => zB z H3 fun k H3 => zIf k (tc σ H3 fun w H4 => rr' y w H4 Q) (Q (.bl false) H3)) : tChain rr rr' ta tb tc σ H Q := h
theorem s_ifE (h : t σ H fun k H1 => zIf k (ta σ H1 Q) (tb σ H1 Q)) : tIf t ta tb σ H Q := h
theorem s_bm {T : String} {rm : V → List V → Hp → VK → Prop} (h : ta σ H fun x H1 => zTy K T x H1 (tA σ H1 fun xs H2 => rm x xs H2 Q)) : tBM K T rm ta tA σ H Q := h
theorem s_bm0 {T : String} {rm : V → List V → Hp → VK → Prop} (h : ta σ H fun x H1 => zTy K T x H1 (rm x [] H1 Q)) : tBM0 K T rm ta σ H Q := h
theorem s_fld {f : Str} (h : ta σ H fun x H1 => zFld K x f H1 Q) : tFld K ta f σ H Q := h
theorem s_dget {td ty : TE} (h : td σ H fun x H1 => ty σ H1 fun y H2 => zDGet x y H2 Q) : tDGet td ty σ H Q := h
theorem s_din {td ty : TE} (h : ty σ H fun y H1 => td σ H1 fun x H2 => zDIn y x H2 Q) : tDIn ty td σ H Q := h
theorem s_dnotin {td ty : TE} (h : ty σ H fun y H1 => td σ H1 fun x H2 => zDNotIn y x H2 Q) : tDNotIn ty td σ H Q := h
theorem s_dnew (h : ∀ p, H p = none → Q (.ref p) (upd H p (.dK []))) : tDNewK σ H Q := h
theorem s_andV (h : ta σ H fun x H1 => zB x H1 fun k H1 => zIf k (tb σ H1 Q) (Q (.bl false) H1)) : tAndV ta tb σ H Q := h
theorem s_orV (h : ta σ H fun x H1 => zB x H1 fun k H1 => zIf k (Q (.bl true) H1) (tb σ H1 Q)) : tOrV ta tb σ H Q := h
theorem s_notV (h : ta σ H fun x H1 => zB x H1 fun k H1 => Q (.bl (!k)) H1) : tNotV ta σ H Q := h
/-! ### by values -/
theorem s_rI0 {gg : Int → Int → V} (h : Q (gg i j) H) : rI0 gg (.int i) (.int j) H Q := ⟨i, j, rfl, rfl, h⟩
theorem s_rU {gg : Int → V} (h : Q (gg i) H) : rU gg (.int i) H Q := ⟨i, rfl, h⟩
theorem s_fdv (h0 : j ≠ 0 ∧ j.natAbs.log2 < 9000) (h : Q (.int (i.fdiv j)) H) : rFdv (.int i) (.int j) H Q := ⟨i, j, rfl, rfl, h0, h⟩
theorem s_mod (h0 : j ≠ 0) (h : Q (.int (i.fmod j)) H) : rMod (.int i) (.int j) H Q := ⟨i, j, rfl, rfl, h0, h⟩
theorem s_fdvp (h0 : 0 < j ∧ j < 2 ^ 64) (h : Q (.int (i / j)) H) : rFdv (.int i) (.int j) H Q := ⟨i, j, rfl, rfl, ⟨by omega, Nat.lt_of_lt_of_le (PySem.Flt.log2_lt_of (k := 64) (by decide) (by omega)) (by decide)⟩, by
  show Q (.int (i.fdiv j)) H
  rw [Int.fdiv_eq_ediv_of_nonneg i (by omega)]; exact h⟩
theorem s_modp (h0 : 0 < j) (h : Q (.int (i % j)) H) : rMod (.int i) (.int j) H Q := ⟨i, j, rfl, rfl, by omega, by
  show Q (.int (i.fmod j)) H
  rw [Int.fmod_eq_emod_of_nonneg i (by omega)]; exact h⟩
theorem s_mulp (h0 : (-18446744073709551616 < i ∧ i < 18446744073709551616) ∨ (-18446744073709551616 < j ∧ j < 18446744073709551616)) (h : Q (.int (i * j)) H) : rMul (.int i) (.int j) H Q := ⟨i, j, rfl, rfl, .inl h0, h⟩
theorem s_mul (h0 : CMul i j ∨ CMulW i j) (h : Q (.int (i * j)) H) : rMul (.int i) (.int j) H Q := ⟨i, j, rfl, rfl, h0, h⟩
theorem s_add_i (h : Q (.int (i + j)) H) : rAddU K (.int i) (.int j) H Q := .inl ⟨i, j, rfl, rfl, h⟩
theorem s_add_s {z w : Str} (h0 : z.length + w.length ≤ sizeLine) (h : Q (.str (z ++ w)) H) : rAddU K (.str z) (.str w) H Q := .inr (.inl ⟨z, w, rfl, rfl, h0, h⟩)
theorem s_add_l (h1 : H p = some (.lst xs)) (h2 : H q = some (.lst ys)) (h0 : xs.length + ys.length ≤ sizeLine) (h : ∀ a, H a = none → Q (.ref a) (upd H a (.lst (xs ++ ys)))) : rAddU K (.ref p) (.ref q) H Q := .inr (.inr (.inl ⟨p, q, xs, ys, rfl, rfl, h1, h2, h0, h⟩))
theorem s_add_t (h1 : SqT K H p xs) (h2 : SqT K H q ys) (hx : xs ≠ []) (hy : ys ≠ []) (h0 : xs.length + ys.length ≤ sizeLine) (h : ∀ a, H a = none → Q (.ref a) (upd H a (.tup (xs ++ ys)))) : rAddU K (.ref p) (.ref q) H Q := .inr (.inr (.inr ⟨p, q, xs, ys, rfl, rfl, h1, h2, hx, h0, fun e => absurd e hy, fun _ => h⟩))
theorem s_eq_i (h : Q (.bl (decide (i = j))) H) : rEqU K (.int i) (.int j) H Q := .inl ⟨rfl, by rw [show decide (V.int i = V.int j) = decide (i = j) by simp]; exact h⟩
theorem s_ne_i (h : Q (.bl (!decide (i = j))) H) : rNeU K (.int i) (.int j) H Q := .inl ⟨rfl, by rw [show decide (V.int i = V.int j) = decide (i = j) by simp]; exact h⟩
theorem s_eq_s {z w : Str} (h : Q (.bl (decide (z = w))) H) : rEqU K (.str z) (.str w) H Q := .inl ⟨rfl, by rw [show decide (V.str z = V.str w) = decide (z = w) by simp]; exact h⟩
theorem s_ne_s {z w : Str} (h : Q (.bl (!decide (z = w))) H) : rNeU K (.str z) (.str w) H Q := .inl ⟨rfl, by rw [show decide (V.str z = V.str w) = decide (z = w) by simp]; exact h⟩
theorem s_eq_v (h0 : scal x y = true) (h : Q (.bl (decide (x = y))) H) : rEqU K x y H Q := .inl ⟨h0, h⟩
theorem s_ne_v (h0 : scal x y = true) (h : Q (.bl (!decide (x = y))) H) : rNeU K x y H Q := .inl ⟨h0, h⟩
theorem s_eq_d {d e : PyData} (h1 : Dp K H x d) (h2 : Dp K H y e) (h3 : SeqAt.shaped d = true) (h4 : SeqAt.shaped e = true) (h : Q (.bl (PyData.eqv d e)) H) : rEqU K x y H Q := .inr ⟨d, e, h1, h2, h3, h4, h⟩
theorem s_ne_d {d e : PyData} (h1 : Dp K H x d) (h2 : Dp K H y e) (h3 : SeqAt.shaped d = true) (h4 : SeqAt.shaped e = true) (h : Q (.bl (!PyData.eqv d e)) H) : rNeU K x y H Q := .inr ⟨d, e, h1, h2, h3, h4, h⟩
theorem s_ix_l (h1 : SqL K H p xs) (h2 : atI xs i = some v) (h : Q v H) : rIx K (.ref p) (.int i) H Q := .inl ⟨p, xs, i, v, rfl, rfl, h1, h2, h⟩
theorem s_ix_t (h1 : SqT K H p xs) (h2 : atI xs i = some v) (h : Q v H) : rIx K (.ref p) (.int i) H Q := .inr (.inl ⟨p, xs, i, v, rfl, rfl, h1, h2, h⟩)
theorem s_ix_s {z : Str} {cc : Nat} (h1 : z.length ≤ sizeLine) (h2 : atI z.cps.toList i = some cc) (h : Q (.str ⟨#[cc]⟩) H) : rIx K (.str z) (.int i) H Q := .inr (.inr ⟨z, i, cc, rfl, rfl, h1, h2, h⟩)
theorem s_setL {N1 : Hp → Prop} (h1 : H p = some (.lst xs)) (h2 : ixN xs.length i = some n) (h : N1 (upd H p (.lst (xs.set n v)))) : rSetL (.ref p) (.int i) v H N1 := ⟨p, xs, i, n, rfl, rfl, h1, h2, h⟩
theorem s_len_l (h1 : SqL K H p xs) (h : Q (.int xs.length) H) : rLen K [.ref p] H Q := ⟨p, xs, rfl, .inl h1, h⟩
theorem s_len_t (h1 : SqT K H p xs) (h : Q (.int xs.length) H) : rLen K [.ref p] H Q := ⟨p, xs, rfl, .inr h1, h⟩
theorem s_min2 (h : Q (.int (if j < i then j else i)) H) : rMin2 [.int i, .int j] H Q := ⟨i, j, rfl, h⟩
theorem s_max2 (h : Q (.int (if j > i then j else i)) H) : rMax2 [.int i, .int j] H Q := ⟨i, j, rfl, h⟩
theorem s_listof_l (h1 : SqL K H p xs) (h : ∀ l, H l = none → Q (.ref l) (upd H l (.lst xs))) : rListOf K [.ref p] H Q := ⟨p, xs, rfl, .inl h1, h⟩
theorem s_listof_t (h1 : SqT K H p xs) (h : ∀ l, H l = none → Q (.ref l) (upd H l (.lst xs))) : rListOf K [.ref p] H Q := ⟨p, xs, rfl, .inr h1, h⟩
theorem s_tupof_l (h1 : SqL K H p xs) (h : ∀ l, H l = none → Q (.ref l) (upd H l (.tup xs))) : rTupOf K [.ref p] H Q := ⟨p, xs, rfl, .inl ⟨h1, h⟩⟩
theorem s_tupof_t (h1 : SqT K H p xs) (h : Q (.ref p) H) : rTupOf K [.ref p] H Q := ⟨p, xs, rfl, .inr ⟨h1, h⟩⟩
theorem s_int1 (h : Q (.int i) H) : rInt1 [.int i] H Q := .inl ⟨i, rfl, h⟩
theorem s_int1b (h : Q (.int (if k then 1 else 0)) H) : rInt1 [.bl k] H Q := .inr ⟨k, rfl, h⟩
theorem s_abs (h : Q (.int (if i < 0 then -i else i)) H) : rAbs [.int i] H Q := ⟨i, rfl, h⟩
theorem s_strI (h0 : i.natAbs.log2 < 1920) (h : Q (.str (toString i)) H) : rStrI [.int i] H Q := ⟨i, rfl, h0, h⟩
theorem s_isi {cc : V} {ty uu : Value} {bb : Bool} (h1 : ClsV cc uu) (h2 : TyX K H x ty) (h3 : PySem.W.kitOne K ty uu = some bb) (h : Q (.bl bb) H) : rIsi2 K [x, cc] H Q := .inl ⟨x, cc, ty, uu, bb, rfl, h1, h2, h3, h⟩
theorem s_isN (h : Q (.bl (decide (x = .non))) H) : rIsNz x .non H Q := ⟨rfl, h⟩
theorem s_notN (h : Q (.bl (!decide (x = .non))) H) : rNotNz x .non H Q := ⟨rfl, h⟩
theorem s_gun_t {tg : TGs} {NN : L2.St → Hp → Prop} (hs : SqT K H a xs) (hl : xs.length = n) (h : tg xs σ H NN) : gUn K n tg (.ref a) σ H NN := .inl ⟨a, xs, rfl, hs, hl, h⟩
theorem s_gun_l {tg : TGs} {NN : L2.St → Hp → Prop} (hs : SqL K H a xs) (hl : xs.length = n) (h : tg xs σ H NN) : gUn K n tg (.ref a) σ H NN := .inr ⟨a, xs, rfl, hs, hl, h⟩
theorem s_p18 (h : Q (.int 1000000000000000000) H) : rI CPow (fun i j => .int (i ^ j.toNat)) (.int 10) (.int 18) H Q := ⟨10, 18, rfl, rfl, by unfold CPow; decide, h⟩
theorem s_callS {W : WX} {sp : Sp} (h : tA σ H fun vs H1 => sp vs H1 Q (WE W σ)) : tCallS sp (WE W) tA σ H Q := h
theorem s_in_l (h1 : SqL K H p xs) (h2 : flatV x = true) (h3 : xs.all flatV = true) (h : Q (.bl (inV x xs)) H) : rIn K false x (.ref p) H Q := ⟨p, xs, rfl, .inl h1, h2, h3, h⟩
theorem s_in_t (h1 : SqT K H p xs) (h2 : flatV x = true) (h3 : xs.all flatV = true) (h : Q (.bl (inV x xs)) H) : rIn K false x (.ref p) H Q := ⟨p, xs, rfl, .inr h1, h2, h3, h⟩
theorem s_nin_l (h1 : SqL K H p xs) (h2 : flatV x = true) (h3 : xs.all flatV = true) (h : Q (.bl (!inV x xs)) H) : rIn K true x (.ref p) H Q := ⟨p, xs, rfl, .inl h1, h2, h3, h⟩
theorem s_nin_t (h1 : SqT K H p xs) (h2 : flatV x = true) (h3 : xs.all flatV = true) (h : Q (.bl (!inV x xs)) H) : rIn K true x (.ref p) H Q := ⟨p, xs, rfl, .inr h1, h2, h3, h⟩
theorem s_append (h1 : H p = some (.lst xs)) (h2 : xs.length < sizeLine) (h : Q .non (upd H p (.lst (xs ++ [v])))) : rAppend (.ref p) [v] H Q := ⟨p, xs, v, rfl, rfl, h1, h2, h⟩
theorem s_zTyL {N0 : Prop} (h1 : H p = some (.lst xs)) (h : N0) : zTy K "list" (.ref p) H N0 := ⟨.inl ⟨rfl, xs, .inl (.inl h1)⟩, h⟩
theorem s_zDGet_s {z : Str} {kvs : List (Key × V)} (h1 : Rd H p (.dK kvs)) (h2 : valV kvs (Sum.inr z : Key) = some v) (h : Q v H) : zDGet (.ref p) (.str z) H Q := ⟨p, v, rfl, .inl ⟨kvs, Sum.inr z, h1, rfl, h2.symm⟩, h⟩
theorem s_zDGet_i {kvs : List (Key × V)} (h1 : Rd H p (.dK kvs)) (h2 : valV kvs (Sum.inl i : Key) = some v) (h : Q v H) : zDGet (.ref p) (.int i) H Q := ⟨p, v, rfl, .inl ⟨kvs, Sum.inl i, h1, rfl, h2.symm⟩, h⟩
theorem s_zDIn_s {z : Str} {kvs : List (Key × V)} (h1 : Rd H p (.dK kvs)) (h : Q (.bl (valV kvs (Sum.inr z : Key)).isSome) H) : zDIn (.str z) (.ref p) H Q := ⟨p, _, rfl, .inl ⟨kvs, Sum.inr z, h1, rfl, rfl⟩, h⟩
theorem s_zDIn_i {kvs : List (Key × V)} (h1 : Rd H p (.dK kvs)) (h : Q (.bl (valV kvs (Sum.inl i : Key)).isSome) H) : zDIn (.int i) (.ref p) H Q := ⟨p, _, rfl, .inl ⟨kvs, Sum.inl i, h1, rfl, rfl⟩, h⟩
theorem s_zDNotIn_s {z : Str} {kvs : List (Key × V)} (h1 : Rd H p (.dK kvs)) (h : Q (.bl (!(valV kvs (Sum.inr z : Key)).isSome)) H) : zDNotIn (.str z) (.ref p) H Q := ⟨p, _, rfl, .inl ⟨kvs, Sum.inr z, h1, rfl, rfl⟩, h⟩
theorem s_zDNotIn_i {kvs : List (Key × V)} (h1 : Rd H p (.dK kvs)) (h : Q (.bl (!(valV kvs (Sum.inl i : Key)).isSome)) H) : zDNotIn (.int i) (.ref p) H Q := ⟨p, _, rfl, .inl ⟨kvs, Sum.inl i, h1, rfl, rfl⟩, h⟩
theorem s_zDPut_s {z : Str} {kvs : List (Key × V)} {N1 : Hp → Prop} (h1 : H p = some (.dK kvs)) (h2 : kvs.length < sizeLine) (h : N1 (upd H p (.dK (putK kvs (Sum.inr z : Key) v)))) : zDPut (.ref p) (.str z) v H N1 := ⟨p, _, rfl, .inl ⟨kvs, Sum.inr z, h1, rfl, h2, rfl⟩, h⟩
theorem s_zDPut_i {kvs : List (Key × V)} {N1 : Hp → Prop} (h1 : H p = some (.dK kvs)) (h2 : kvs.length < sizeLine) (h : N1 (upd H p (.dK (putK kvs (Sum.inl i : Key) v)))) : zDPut (.ref p) (.int i) v H N1 := ⟨p, _, rfl, .inl ⟨kvs, Sum.inl i, h1, rfl, h2, rfl⟩, h⟩
theorem s_zFld {C dx : Addr} {fs : List (Str × V)} {f : Str} (h1 : H p = some (.ins C dx fs)) (hc : Cls K C) (hn : NoAttr K C f) (hl : fs.lookup f = some v) (h : Q v H) : zFld K (.ref p) f H Q := ⟨p, C, dx, fs, v, rfl, h1, hc, hn, hl, h⟩
/-! ### ways -/
theorem s_ift (h : A) : zIf true A B := by unfold zIf; rw [if_pos rfl]; exact h
theorem s_iff (h : B) : zIf false A B := by unfold zIf; rw [if_neg Bool.false_ne_true]; exact h
theorem s_ifd {D : Prop} [Decidable D] (h1 : D → A) (h2 : ¬ D → B) : zIf (decide D) A B := by
  by_cases h : D
  · rw [decide_eq_true h]; exact s_ift (h1 h)
  · rw [decide_eq_false h]; exact s_iff (h2 h)
theorem s_ifn {D : Prop} [Decidable D] (h1 : ¬ D → A) (h2 : D → B) : zIf (!decide D) A B := by
  by_cases h : D
  · rw [decide_eq_true h]; exact s_iff (h2 h)
  · rw [decide_eq_false h]; exact s_ift (h1 h)
theorem s_ifdt {D : Prop} [Decidable D] (h : D) (h1 : A) : zIf (decide D) A B := by rw [decide_eq_true h]; exact s_ift h1
theorem s_ifdf {D : Prop} [Decidable D] (h : ¬ D) (h1 : B) : zIf (decide D) A B := by rw [decide_eq_false h]; exact s_iff h1
theorem s_ifk (h1 : k = true → A) (h2 : k = false → B) : zIf k A B := by
  cases k with
  | true => exact s_ift (h1 rfl)
  | false => exact s_iff (h2 rfl)
theorem s_ifkt (h : k = true) (h1 : A) : zIf k A B := by subst h; exact s_ift h1
theorem s_ifkf (h : k = false) (h1 : B) : zIf k A B := by subst h; exact s_iff h1
/-! ### loops -/
/-- a loop whose iterator stands -/
def zLoop (J : It) (g : TG) (tb : TS) (D : Ends) (σ : L2.St) (H1 : Hp) : Prop := ∃ W : Nat → Nat → L2.St → Hp → Prop, (∃ m, W 0 m σ H1) ∧ ∀ i m σ H, W i m σ H →
  (J.stop i H ∧ D.nx σ H) ∨ (J.go i H ∧ ∃ N : L2.St → Hp → Prop, (∀ σ' H', N σ' H' → ∃ m', m' < m ∧ W (i + 1) m' σ' H') ∧ ∀ x H', J.yld i H x H' → g x σ H' fun σ2 H2 => tb { D with nx := N, ct := N, bk := D.nx } σ2 H2)
def zRng1 (vs : List V) (H : Hp) (R : It → Hp → Prop) : Prop := ∃ j : Int, vs = [.int j] ∧ -(2 ^ 62) ≤ j ∧ j < 2 ^ 62 ∧ R (Itr 0 j.toNat) H
def zRng2 (vs : List V) (H : Hp) (R : It → Hp → Prop) : Prop := ∃ i j : Int, vs = [.int i, .int j] ∧ (-(2 ^ 62) ≤ i ∧ i < 2 ^ 62 ∧ -(2 ^ 62) ≤ j ∧ j < 2 ^ 62) ∧ R (Itr i (j - i).toNat) H
def zItL (K : PySem.W.Frag) (x : V) (H : Hp) (R : It → Hp → Prop) : Prop := ∃ a, x = .ref a ∧ (∃ xs, SqL K H a xs) ∧ R (Itl K a) H
def zItT (K : PySem.W.Frag) (x : V) (H : Hp) (R : It → Hp → Prop) : Prop := ∃ a, x = .ref a ∧ (∃ xs, SqT K H a xs) ∧ R (Itt K a) H
theorem s_for {wi : TI} {tb1 : TS} (h : wi σ H fun J H1 => zLoop J g tb1 ⟨N, r, b, c⟩ σ H1) : tFor wi g tb1 ⟨N, r, b, c⟩ σ H := h
theorem s_rng1 {R : It → Hp → Prop} (h : tA σ H fun vs H1 => zRng1 vs H1 R) : iRng1 tA σ H R := h
theorem s_rng2 {R : It → Hp → Prop} (h : tA σ H fun vs H1 => zRng2 vs H1 R) : iRng2 tA σ H R := h
theorem s_itl {R : It → Hp → Prop} (h : te σ H fun x H1 => zItL K x H1 R) : iList K te σ H R := h
theorem s_itt {R : It → Hp → Prop} (h : te σ H fun x H1 => zItT K x H1 R) : iTup K te σ H R := h
theorem s_zrng1 {R : It → Hp → Prop} (h1 : -(2 ^ 62) ≤ j ∧ j < 2 ^ 62) (h : R (Itr 0 j.toNat) H) : zRng1 [.int j] H R := ⟨j, rfl, h1.1, h1.2, h⟩
theorem s_zrng2 {R : It → Hp → Prop} (h1 : -(2 ^ 62) ≤ i ∧ i < 2 ^ 62 ∧ -(2 ^ 62) ≤ j ∧ j < 2 ^ 62) (h : R (Itr i (j - i).toNat) H) : zRng2 [.int i, .int j] H R := ⟨i, j, rfl, h1, h⟩
theorem s_zitl {R : It → Hp → Prop} (h1 : SqL K H p xs) (h : R (Itl K p) H) : zItL K (.ref p) H R := ⟨p, rfl, ⟨xs, h1⟩, h⟩
theorem s_zitt {R : It → Hp → Prop} (h1 : SqT K H p xs) (h : R (Itt K p) H) : zItT K (.ref p) H R := ⟨p, rfl, ⟨xs, h1⟩, h⟩
theorem loop_range {tb1 : TS} {lo : Int} (Pv : Nat → L2.St → Hp → Prop) (h0 : Pv 0 σ H) (hs : ∀ i σ' H', i < n → Pv i σ' H' → g (.int (lo + (i : Int))) σ' H' fun σ2 H2 => tb1 ⟨Pv (i + 1), r, N, Pv (i + 1)⟩ σ2 H2)
    (hd : ∀ σ' H', Pv n σ' H' → N σ' H') : zLoop (Itr lo n) g tb1 ⟨N, r, b, c⟩ σ H := for_range (D := ⟨N, r, b, c⟩) Pv h0 hs hd
theorem loop_list {tb1 : TS} (xs : List V) (Pv : Nat → L2.St → Hp → Prop) (h0 : Pv 0 σ H) (hl : ∀ i σ' H', i ≤ xs.length → Pv i σ' H' → SqL K H' p xs)
    (hs : ∀ i x σ' H', xs[i]? = some x → Pv i σ' H' → g x σ' H' fun σ2 H2 => tb1 ⟨Pv (i + 1), r, N, Pv (i + 1)⟩ σ2 H2) (hd : ∀ σ' H', Pv xs.length σ' H' → N σ' H') : zLoop (Itl K p) g tb1 ⟨N, r, b, c⟩ σ H :=
  for_list (D := ⟨N, r, b, c⟩) (xs := xs) Pv h0 hl hs hd
theorem loop_tup {tb1 : TS} (xs : List V) (Pv : Nat → L2.St → Hp → Prop) (h0 : Pv 0 σ H) (hl : ∀ i σ' H', i ≤ xs.length → Pv i σ' H' → SqT K H' p xs)
    (hs : ∀ i x σ' H', xs[i]? = some x → Pv i σ' H' → g x σ' H' fun σ2 H2 => tb1 ⟨Pv (i + 1), r, N, Pv (i + 1)⟩ σ2 H2) (hd : ∀ σ' H', Pv xs.length σ' H' → N σ' H') : zLoop (Itt K p) g tb1 ⟨N, r, b, c⟩ σ H :=
  for_tup (D := ⟨N, r, b, c⟩) (xs := xs) Pv h0 hl hs hd
def zBody (W : Nat → L2.St → Hp → Prop) (m : Nat) (tb : TS) (D : Ends) (σ : L2.St) (H1 : Hp) : Prop := ∃ N1 : L2.St → Hp → Prop, (∀ σ' H', N1 σ' H' → ∃ m', m' < m ∧ W m' σ' H') ∧ tb { D with nx := N1, ct := N1, bk := D.nx } σ H1
theorem s_zbody {W : Nat → L2.St → Hp → Prop} {m : Nat} {tb1 : TS} (h : tb1 ⟨fun σ2 H2 => ∃ m', m' < m ∧ W m' σ2 H2, r, N, fun σ2 H2 => ∃ m', m' < m ∧ W m' σ2 H2⟩ σ H) : zBody W m tb1 ⟨N, r, b, c⟩ σ H := ⟨_, fun σ2 H2 z => z, h⟩
theorem s_while {tb1 : TS} (W : Nat → L2.St → Hp → Prop) (m0 : Nat) (h0 : W m0 σ H)
    (hs : ∀ (m : Nat) σ' H', W m σ' H' → t σ' H' fun k H1 => zIf k (zBody W m tb1 ⟨N, r, b, c⟩ σ' H1) (N σ' H1)) : tWhile t tb1 ⟨N, r, b, c⟩ σ H := ⟨W, ⟨m0, h0⟩, fun m σ' H' w => hs m σ' H' w⟩
/-! ### heaps -/
theorem up_new {H : Hp} {q a : Addr} {o u : HO} (hq : H q = none) (h : H a = some o) : upd H q u a = some o := by rw [upd_ne (ne_of_none h hq)]; exact h
theorem up_far {H : Hp} {q a : Addr} {o u : HO} (hn : a ≠ q) (h : H a = some o) : upd H q u a = some o := by rw [upd_ne hn]; exact h
theorem sm_rd {H H' : Hp} {a : Addr} {o : HO} (S : Same H H') (h : H a = some o) : H' a = some o := S a o h
theorem same_new {H : Hp} {p : Addr} {o : HO} (h : H p = none) : Same H (upd H p o) := fun b u q => by rw [upd_ne (ne_of_none q h)]; exact q
def Fz : HO → Prop
  | .frz _ _ => True
  | _ => False
/-- all but what stands at p (and isn't locked) is as it was -/
def But (p : Addr) (H H' : Hp) : Prop := ∀ b o, (b ≠ p ∨ Fz o) → H b = some o → H' b = some o
theorem But.refl (p : Addr) (H : Hp) : But p H H := fun _ _ _ h => h
theorem But.trans {p : Addr} {H H1 H2 : Hp} (a : But p H H1) (b : But p H1 H2) : But p H H2 := fun c o n h => b c o n (a c o n h)
theorem But.rd {p : Addr} {H H' : Hp} {a : Addr} {o : HO} (S : But p H H') (n : a ≠ p) (h : H a = some o) : H' a = some o := S a o (.inl n) h
theorem But.of {p : Addr} {H H' : Hp} (S : Same H H') : But p H H' := fun b o _ h => S b o h
theorem But.up {p : Addr} {H H' : Hp} {o u : HO} (S : But p H H') (hp : H' p = some u) (nf : ¬ Fz u) : But p H (L2.upd H' p o) := fun b v n h => by
  have h' := S b v n h
  by_cases e : b = p
  · subst e
    rw [hp] at h'
    cases h'
    rcases n with n | n
    · exact absurd rfl n
    · exact absurd n nf
  · rw [upd_ne e]; exact h'
theorem But.new {p q : Addr} {H H' : Hp} {o : HO} (S : But p H H') (hq : H' q = none) : But p H (L2.upd H' q o) := fun b u n h => by rw [upd_ne (ne_of_none (S b u n h) hq)]; exact S b u n h
theorem But.none {p b : Addr} {H H' : Hp} (S : But p H H') (n : b ≠ p) (h : H' b = Option.none) : H b = Option.none := by
  cases e : H b with
  | none => rfl
  | some o => rw [S b o (.inl n) e] at h; cases h
theorem But.sqL {K : PySem.W.Frag} {p : Addr} {H H' : Hp} {a : Addr} {xs : List V} (S : But p H H') (n : a ≠ p) (h : SqL K H a xs) : SqL K H' a xs := by
  rcases h with (h | ⟨o, h⟩) | h
  · exact .inl (.inl (S _ _ (.inl n) h))
  · exact .inl (.inr ⟨o, S _ _ (.inl n) h⟩)
  · exact .inr h
theorem But.sqT {K : PySem.W.Frag} {p : Addr} {H H' : Hp} {a : Addr} {xs : List V} (S : But p H H') (n : a ≠ p) (h : SqT K H a xs) : SqT K H' a xs := by
  rcases h with (h | ⟨o, h⟩) | h
  · exact .inl (.inl (S _ _ (.inl n) h))
  · exact .inl (.inr ⟨o, S _ _ (.inl n) h⟩)
  · exact .inr h
theorem same_sqT {K : PySem.W.Frag} {H H' : Hp} {a : Addr} {xs : List V} (S : Same H H') (h : SqT K H a xs) : SqT K H' a xs := by
  rcases h with (h | ⟨o, h⟩) | h
  · exact .inl (.inl (S _ _ h))
  · exact .inl (.inr ⟨o, S _ _ h⟩)
  · exact .inr h
/-- the law's script: locked, or of the written part -/
def Scr (K : PySem.W.Frag) (H : Hp) (a : Addr) (ns : List Int) : Prop := (∃ o, H a = some (.frz o (.lst (ns.map V.int)))) ∨
  ∃ (o : Obj) (its : Array Value) (n : Nat), K.lookup a = some o ∧ o.cls = .type "list" ∧ o.dict = none ∧ o.data = .seq its n ∧ its.size ≤ sizeLine ∧ Vals (ns.map V.int) its.toList
theorem Scr.of {K : PySem.W.Frag} {H : Hp} {a : Addr} {ns : List Int} (h0 : Only H) (h : SqL K H a (ns.map V.int)) : Scr K H a ns := by
  rcases h with (h | ⟨o, h⟩) | h
  · rcases h0 a with e | ⟨o, xs, e⟩
    · rw [h] at e; cases e
    · rw [h] at e; cases e
  · exact .inl ⟨o, h⟩
  · exact .inr h
theorem Scr.sq {K : PySem.W.Frag} {H : Hp} {a : Addr} {ns : List Int} (h : Scr K H a ns) : SqL K H a (ns.map V.int) := by
  rcases h with ⟨o, h⟩ | h
  · exact .inl (.inr ⟨o, h⟩)
  · exact .inr h
theorem Scr.but {K : PySem.W.Frag} {H H' : Hp} {p a : Addr} {ns : List Int} (S : But p H H') (h : Scr K H a ns) : Scr K H' a ns := by
  rcases h with ⟨o, h⟩ | h
  · exact .inl ⟨o, S _ _ (.inr trivial) h⟩
  · exact .inr h
theorem Scr.same {K : PySem.W.Frag} {H H' : Hp} {a : Addr} {ns : List Int} (S : Same H H') (h : Scr K H a ns) : Scr K H' a ns := by
  rcases h with ⟨o, h⟩ | h
  · exact .inl ⟨o, S _ _ h⟩
  · exact .inr h
/-- a change of what stands at p, the heap behind it by a name -/
theorem up_but {H : Hp} {p : Addr} {o u : HO} (h : H p = some u) (nf : ¬ Fz u) : But p H (L2.upd H p o) := (But.refl p H).up h nf
theorem c_setL {N1 : Hp → Prop} (n : Nat) (ys : List V) (h1 : H p = some (.lst xs)) (h2 : ixN xs.length i = some n) (h3 : xs.set n v = ys) (h : ∀ H', But p H H' → H' p = some (.lst ys) → N1 H') : rSetL (.ref p) (.int i) v H N1 :=
  s_setL h1 h2 (h _ (up_but h1 (fun z => z)) (by rw [h3]; exact upd_same))
theorem c_append (h1 : H p = some (.lst xs)) (h2 : xs.length < sizeLine) (h : ∀ H', But p H H' → H' p = some (.lst (xs ++ [v])) → Q .non H') : rAppend (.ref p) [v] H Q :=
  s_append h1 h2 (h _ (up_but h1 (fun z => z)) upd_same)
/-- a change of what wasn't there at first -/
theorem But.own {p l : Addr} {H H1 H2 : Hp} (a : But p H H1) (b : But l H1 H2) (hl : H l = Option.none) : But p H H2 := fun c o n h => b c o (.inl (ne_of_none h hl)) (a c o n h)
theorem same_own {l : Addr} {H H1 H2 : Hp} (a : Same H H1) (b : But l H1 H2) (hl : H l = Option.none) : Same H H2 := fun c o h => b c o (.inl (ne_of_none h hl)) (a c o h)
/-- tuples stay -/
def TupS (H H' : Hp) : Prop := ∀ b ys, H b = some (.tup ys) → H' b = some (.tup ys)
theorem TupS.refl (H : Hp) : TupS H H := fun _ _ h => h
theorem TupS.trans {H H1 H2 : Hp} (a : TupS H H1) (b : TupS H1 H2) : TupS H H2 := fun c o h => b c o (a c o h)
theorem TupS.new {q : Addr} {H : Hp} {o : HO} (hq : H q = none) : TupS H (L2.upd H q o) := fun b ys h => same_new hq b _ h
theorem TupS.of {H H' : Hp} (S : Same H H') : TupS H H' := fun b _ h => S b _ h
theorem TupS.but {p : Addr} {H H' : Hp} {o : HO} (S : But p H H') (hp : H p = some o) (n : ∀ ys, o ≠ .tup ys) : TupS H H' := fun b ys h => S b _ (.inl fun e => by
  subst e
  rw [hp] at h
  exact n ys (Option.some.inj h)) h
theorem TupS.butN {p : Addr} {H H' : Hp} (S : But p H H') (hp : H p = none) : TupS H H' := fun b ys h => S b _ (.inl fun e => by
  subst e
  rw [hp] at h
  cases h) h
/-- an item of a list of ints, at an open place within -/
theorem at_ints (ns : List Int) {i : Int} (h0 : 0 ≤ i) (h1 : i < ns.length) : ∃ w, w ∈ ns ∧ atI (ns.map V.int) i = some (.int w) := by
  refine ⟨ns[i.toNat]'(by omega), List.getElem_mem _, ?_⟩
  exact at_of (j := i.toNat) (by omega) (by rw [List.getElem?_map, List.getElem?_eq_getElem (by omega)]; rfl)
/-! ### data: laid at most so deep -/
structure Sh (n : Nat) (d : PyData) : Prop where
  c : d.canLay0 = true
  d : d.depth ≤ n
theorem Sh.shaped {n : Nat} {d : PyData} (h : Sh n d) (hn : n ≤ 64) : SeqAt.shaped d = true := by
  unfold SeqAt.shaped
  rw [h.c, decide_eq_true (Nat.le_trans h.d hn)]
  rfl
theorem Sh.mono {n m : Nat} {d : PyData} (h : Sh n d) (hn : n ≤ m) : Sh m d := ⟨h.c, Nat.le_trans h.d hn⟩
theorem Sh.int {n : Nat} (i : Int) : Sh n (.int i) := ⟨rfl, Nat.zero_le _⟩
theorem Sh.non {n : Nat} : Sh n .none := ⟨rfl, Nat.zero_le _⟩
theorem Sh.bl {n : Nat} (b : Bool) : Sh n (.bool b) := ⟨rfl, Nat.zero_le _⟩
theorem Sh.str {n : Nat} {x : Str} (h : PyData.strOk x = true) : Sh n (.str x) := ⟨h, Nat.zero_le _⟩
theorem sh_all {n : Nat} : ∀ {ds : List PyData}, (∀ d ∈ ds, Sh n d) → PyData.canLayAll0 ds = true ∧ PyData.depthAll ds ≤ n
  | [], _ => ⟨rfl, Nat.zero_le _⟩
  | d :: ds, h => by
    have a := h d List.mem_cons_self
    have b := sh_all (ds := ds) fun e he => h e (List.mem_cons_of_mem _ he)
    refine ⟨?_, ?_⟩
    · show (d.canLay0 && PyData.canLayAll0 ds) = true
      rw [a.c, b.1]; rfl
    · show max d.depth (PyData.depthAll ds) ≤ n
      exact Nat.max_le.mpr ⟨a.d, b.2⟩
theorem Sh.list {n : Nat} {ds : List PyData} (h : ∀ d ∈ ds, Sh n d) : Sh (n + 1) (.list ds) := by
  have a := sh_all h
  refine ⟨?_, ?_⟩
  · show PyData.canLayAll0 ds = true
    exact a.1
  · show PyData.depthAll ds + 1 ≤ n + 1
    exact Nat.succ_le_succ a.2
theorem Sh.tup {n : Nat} {ds : List PyData} (h : ∀ d ∈ ds, Sh n d) : Sh (n + 1) (.tuple ds) := by
  have a := sh_all h
  refine ⟨?_, ?_⟩
  · show PyData.canLayAll0 ds = true
    exact a.1
  · show PyData.depthAll ds + 1 ≤ n + 1
    exact Nat.succ_le_succ a.2
theorem Sh.refl {n : Nat} {d : PyData} (h : Sh n d) : PyData.eqv d d = true := SeqAt.eqv_refl d h.c
theorem dp_ints {K : PySem.W.Frag} {H : Hp} : ∀ ns : List Int, DpAll K H (ns.map V.int) (ns.map PyData.int)
  | [] => .nil
  | _ :: ns => .cons (.int _) (dp_ints ns)
theorem sh_ints {n : Nat} (ns : List Int) : ∀ d ∈ ns.map PyData.int, Sh n d := fun d h => by
  obtain ⟨i, _, rfl⟩ := List.mem_map.mp h
  exact Sh.int i
/-! ### specs by the number of arguments -/
def Sp0 (f : Hp → VK → XK → Prop) : Sp := fun vs H Q E => vs = [] ∧ f H Q E
def Sp1 (f : V → Hp → VK → XK → Prop) : Sp := fun vs H Q E => ∃ a, vs = [a] ∧ f a H Q E
def Sp2 (f : V → V → Hp → VK → XK → Prop) : Sp := fun vs H Q E => ∃ a b, vs = [a, b] ∧ f a b H Q E
def Sp3 (f : V → V → V → Hp → VK → XK → Prop) : Sp := fun vs H Q E => ∃ a b c, vs = [a, b, c] ∧ f a b c H Q E
def Sp4 (f : V → V → V → V → Hp → VK → XK → Prop) : Sp := fun vs H Q E => ∃ a b c d, vs = [a, b, c, d] ∧ f a b c d H Q E
def Sp5 (f : V → V → V → V → V → Hp → VK → XK → Prop) : Sp := fun vs H Q E => ∃ a b c d e, vs = [a, b, c, d, e] ∧ f a b c d e H Q E
end
end Z
/-! ### the steps, tried in turn -/
local macro_rules | `(tactic| walk_at "hp") => `(tactic| first
  | with_reducible assumption
  | with_reducible exact upd_same
  | ((with_reducible refine' Z.up_new ?zn ?zq); (case zn => with_reducible assumption); case zq => walk_at "hp")
  | ((with_reducible refine' Z.up_far ?zn ?zq); (case zn => walk_at "ne"); case zq => walk_at "hp")
  | ((with_reducible refine' Z.sm_rd ?zn ?zq); (case zn => with_reducible assumption); case zq => walk_at "hp")
  | ((with_reducible refine' Z.But.rd ?zn ?zm ?zq); (case zn => with_reducible assumption); (case zm => walk_at "ne"); case zq => walk_at "hp"))
local macro_rules | `(tactic| walk_at "ne") => `(tactic| first
  | with_reducible assumption
  | ((with_reducible refine' Ne.symm ?_); with_reducible assumption)
  | ((with_reducible refine' L2.ne_of_none ?zn ?zm); (case zn => with_reducible assumption); case zm => with_reducible assumption)
  | ((with_reducible refine' Ne.symm (L2.ne_of_none ?zn ?zm)); (case zn => with_reducible assumption); case zm => with_reducible assumption))
local macro_rules | `(tactic| walk_at "sq") => `(tactic| first
  | with_reducible assumption
  | ((with_reducible refine' L2.SqL.of ?zq); case zq => walk_at "hp")
  | ((with_reducible refine' L2.SqT.of ?zq); case zq => walk_at "hp")
  | ((with_reducible refine' L2.Same.seq ?zn ?zq); (case zn => with_reducible assumption); case zq => walk_at "sq")
  | ((with_reducible refine' Z.same_sqT ?zn ?zq); (case zn => with_reducible assumption); case zq => walk_at "sq")
  | ((with_reducible refine' Z.But.sqL ?zn ?zm ?zq); (case zn => with_reducible assumption); (case zm => walk_at "ne"); case zq => walk_at "sq")
  | ((with_reducible refine' Z.But.sqT ?zn ?zm ?zq); (case zn => with_reducible assumption); (case zm => walk_at "ne"); case zq => walk_at "sq"))
local macro_rules | `(tactic| walk_at "fit") => `(tactic| first
  | (refine Nat.le_of_ble_eq_true ?_; rfl) | omega)
local macro_rules | `(tactic| walk_at "s") => `(tactic| first
  | with_reducible refine Z.s_seq ?_
  | with_reducible refine Z.s_set ?_
  | ((with_reducible refine' Z.s_var ?zh ?_); case zh => exact rfl)
  | with_reducible refine Z.s_c ?_
  | with_reducible refine Z.s_op ?_
  | with_reducible refine Z.s_cons ?_
  | with_reducible refine Z.s_nil ?_
  | with_reducible refine Z.s_cb ?_
  | with_reducible refine Z.s_callS ?_
  | with_reducible refine Z.s_rI0 ?_
  | with_reducible refine Z.s_add_i ?_
  | with_reducible refine Z.s_test ?_
  | with_reducible refine Z.s_zB ?_
  | with_reducible refine Z.s_if ?_
  | with_reducible refine Z.s_ret ?_
  | with_reducible refine Z.s_next ?_
  | with_reducible refine Z.s_drop ?_
  | with_reducible refine Z.s_eq_i ?_
  | with_reducible refine Z.s_ne_i ?_
  | with_reducible refine Z.s_eq_s ?_
  | with_reducible refine Z.s_ne_s ?_
  | with_reducible refine Z.s_and ?_
  | with_reducible refine Z.s_or ?_
  | with_reducible refine Z.s_not ?_
  | with_reducible refine Z.s_chain ?_
  | with_reducible refine Z.s_B ?_
  | with_reducible refine Z.s_tup ?_
  | with_reducible refine Z.s_lst ?_
  | ((with_reducible refine' Z.s_ztup ?zh ?_); case zh => exact rfl)
  | ((with_reducible refine' Z.s_zlst ?zh ?_); case zh => exact rfl)
  | with_reducible refine Z.s_un ?_
  | with_reducible refine Z.s_rU ?_
  | with_reducible refine Z.s_p18 ?_
  | with_reducible refine Z.s_min2 ?_
  | with_reducible refine Z.s_max2 ?_
  | with_reducible refine Z.s_abs ?_
  | with_reducible refine Z.s_int1 ?_
  | with_reducible refine Z.s_int1b ?_
  | with_reducible refine Z.s_bm ?_
  | with_reducible refine Z.s_bm0 ?_
  | with_reducible refine Z.s_fld ?_
  | with_reducible refine Z.s_dget ?_
  | with_reducible refine Z.s_din ?_
  | with_reducible refine Z.s_dnotin ?_
  | with_reducible refine Z.s_dnew ?_
  | with_reducible refine Z.s_dput ?_
  | with_reducible refine Z.s_asg ?_
  | with_reducible refine Z.s_gname ?_
  | with_reducible refine Z.s_gsub ?_
  | with_reducible refine Z.s_gcons ?_
  | with_reducible refine Z.s_gnil ?_
  | with_reducible refine Z.s_for ?_
  | with_reducible refine Z.s_rng1 ?_
  | with_reducible refine Z.s_rng2 ?_
  | with_reducible refine Z.s_itl ?_
  | with_reducible refine Z.s_itt ?_
  | with_reducible refine Z.s_isN ?_
  | with_reducible refine Z.s_notN ?_
  | with_reducible refine Z.s_ift ?_
  | with_reducible refine Z.s_iff ?_
  | with_reducible refine Z.s_zbody ?_
  | with_reducible refine Z.s_ifE ?_
  | with_reducible refine Z.s_andV ?_
  | with_reducible refine Z.s_orV ?_
  | with_reducible refine Z.s_notV ?_
  | with_reducible refine Z.s_retN ?_
  | with_reducible refine Z.s_break ?_
  | with_reducible refine Z.s_cont ?_
  | ((with_reducible refine Z.s_zrng1 ?zh ?_); case zh => omega)
  | ((with_reducible refine Z.s_zrng2 ?zh ?_); case zh => omega)
  | ((with_reducible refine Z.s_modp ?zh ?_); case zh => omega)
  | ((with_reducible refine Z.s_fdvp ?zh ?_); case zh => omega)
  | ((with_reducible refine Z.s_mulp ?zh ?_); case zh => omega)
  | ((with_reducible refine' Z.s_len_l ?zh ?_); case zh => walk_at "sq")
  | ((with_reducible refine' Z.s_len_t ?zh ?_); case zh => walk_at "sq")
  | ((with_reducible refine' Z.s_zTyL ?zh ?_); case zh => walk_at "hp")
  | ((with_reducible refine' Z.s_listof_l ?zh ?_); case zh => walk_at "sq")
  | ((with_reducible refine' Z.s_listof_t ?zh ?_); case zh => walk_at "sq")
  | ((with_reducible refine' Z.s_tupof_l ?zh ?_); case zh => walk_at "sq")
  | ((with_reducible refine' Z.s_tupof_t ?zh ?_); case zh => walk_at "sq")
  | ((with_reducible refine' Z.s_gun_t ?zh ?zl ?_); (case zh => walk_at "sq"); case zl => rfl)
  | ((with_reducible refine' Z.s_gun_l ?zh ?zl ?_); (case zh => walk_at "sq"); case zl => rfl))
local macro_rules | `(tactic| walk_at "zz") => `(tactic| repeat (walk_at "s"))
namespace My
open PySem L2 Z

def top (i : Nat) : Stmt := PySem.Challenge.pw_ownchain_k33_rows_meant.main.body.getD i (.Pass ⟨0, 0, 0, 0⟩)
abbrev st_meant : Stmt := top 2
abbrev nm_meant : List Str := ["rows", "at", "seen"]
abbrev st_Lcell : Stmt := top 4
abbrev nm_Lcell : List Str := ["_law_script", "_law_k"]
abbrev st_Ltake : Stmt := top 5
abbrev nm_Ltake : List Str := ["_law_state", "_law_most", "_law_script", "_law_at", "_law_left", "_law_cell_here", "_law_number"]
abbrev st_Lrows : Stmt := top 6
abbrev nm_Lrows : List Str := ["_law_state", "_law_many", "_law_few", "_law_rows_here", "_law_at", "_law_way", "_law_goals", "_law_goal"]
abbrev st_Ldue : Stmt := top 7
abbrev nm_Ldue : List Str := ["_law_rows_here", "_law_at", "_law_turn"]
abbrev st_law : Stmt := top 8
abbrev nm_law : List Str := ["_law_script", "_law_state", "_law_turn", "_law_rows_here", "_law_handed", "_law_at", "_law_found", "_law_right"]
/-- where the top's things stand -/
structure Adr where
  K : PySem.W.Frag
  mg : Str → Option Value
  t_OP_JUMP : Tok
  f_meant : Addr
  d_meant : FuncData
  f_Lcell : Addr
  d_Lcell : FuncData
  f_Ltake : Addr
  d_Ltake : FuncData
  f_Lrows : Addr
  d_Lrows : FuncData
  f_Ldue : Addr
  d_Ldue : FuncData
  f_law : Addr
  d_law : FuncData
/-- what is known of them -/
structure Top (Z : Adr) : Prop where
  g_OP_JUMP : Z.mg "OP_JUMP" = some (.int 4 Z.t_OP_JUMP)
  n_bool : Z.mg "bool" = none
  n_isinstance : Z.mg "isinstance" = none
  n_len : Z.mg "len" = none
  n_list : Z.mg "list" = none
  n_max : Z.mg "max" = none
  n_min : Z.mg "min" = none
  n_range : Z.mg "range" = none
  F_meant : Fun Z.K "meant" "meant" st_meant Z.f_meant Z.d_meant
  m_meant : Z.mg "meant" = some (.ref Z.f_meant)
  b_meant : Binds Z.K Z.d_meant ["rows", "at"] []
  F_Lcell : Fun Z.K "_law_cell" "_law_cell" st_Lcell Z.f_Lcell Z.d_Lcell
  m_Lcell : Z.mg "_law_cell" = some (.ref Z.f_Lcell)
  b_Lcell : Binds Z.K Z.d_Lcell ["_law_script", "_law_k"] []
  F_Ltake : Fun Z.K "_law_take" "_law_take" st_Ltake Z.f_Ltake Z.d_Ltake
  m_Ltake : Z.mg "_law_take" = some (.ref Z.f_Ltake)
  b_Ltake : Binds Z.K Z.d_Ltake ["_law_state", "_law_most"] []
  F_Lrows : Fun Z.K "_law_rows" "_law_rows" st_Lrows Z.f_Lrows Z.d_Lrows
  m_Lrows : Z.mg "_law_rows" = some (.ref Z.f_Lrows)
  b_Lrows : Binds Z.K Z.d_Lrows ["_law_state"] []
  F_Ldue : Fun Z.K "_law_due" "_law_due" st_Ldue Z.f_Ldue Z.d_Ldue
  m_Ldue : Z.mg "_law_due" = some (.ref Z.f_Ldue)
  b_Ldue : Binds Z.K Z.d_Ldue ["_law_rows_here", "_law_at"] []
  F_law : Fun Z.K "law" "law" st_law Z.f_law Z.d_law
  m_law : Z.mg "law" = some (.ref Z.f_law)
  b_law : Binds Z.K Z.d_law ["_law_script"] []
theorem Top.k_all {Z : Adr} (_ : Top Z) : True := trivial
theorem Top.k_meant {Z : Adr} (T : Top Z) : PySem.W.keepIn Z.K (.ref Z.f_meant) = true := T.F_meant.kp
theorem Top.k_Lcell {Z : Adr} (T : Top Z) : PySem.W.keepIn Z.K (.ref Z.f_Lcell) = true := T.F_Lcell.kp
theorem Top.k_Ltake {Z : Adr} (T : Top Z) : PySem.W.keepIn Z.K (.ref Z.f_Ltake) = true := T.F_Ltake.kp
theorem Top.k_Lrows {Z : Adr} (T : Top Z) : PySem.W.keepIn Z.K (.ref Z.f_Lrows) = true := T.F_Lrows.kp
theorem Top.k_Ldue {Z : Adr} (T : Top Z) : PySem.W.keepIn Z.K (.ref Z.f_Ldue) = true := T.F_Ldue.kp
theorem Top.k_law {Z : Adr} (T : Top Z) : PySem.W.keepIn Z.K (.ref Z.f_law) = true := T.F_law.kp
/-! ### rows, their steps -/
/-- one jump from a, where there is one -/
def stp (rs : List (Int × Int)) (a : Int) : Int := match rs[a.toNat]? with
  | some (o, r) => if o = 4 then r else a
  | none => a
def itr (rs : List (Int × Int)) : Nat → Int → Int
  | 0, a => a
  | n + 1, a => stp rs (itr rs n a)
def isJ (rs : List (Int × Int)) (a : Int) : Prop := ∃ r, rs[a.toNat]? = some (4, r)
def Good (rs : List (Int × Int)) : Prop := ∀ p ∈ rs, p.1 = 4 → 0 ≤ p.2 ∧ p.2 < (rs.length : Int)
theorem stp_j {rs : List (Int × Int)} {a r : Int} (h : rs[a.toNat]? = some (4, r)) : stp rs a = r := by unfold stp; rw [h]; simp
theorem stp_n {rs : List (Int × Int)} {a : Int} (h : ¬ isJ rs a) : stp rs a = a := by
  unfold stp
  split
  · rename_i o r e
    by_cases h4 : o = 4
    · subst h4; exact absurd ⟨r, e⟩ h
    · rw [if_neg h4]
  · rfl
theorem stp_in {rs : List (Int × Int)} (g : Good rs) {a : Int} (h : 0 ≤ a ∧ a ≤ rs.length) : 0 ≤ stp rs a ∧ stp rs a ≤ rs.length := by
  by_cases j : isJ rs a
  · obtain ⟨r, e⟩ := j
    rw [stp_j e]
    have := g _ (List.mem_of_getElem? e) rfl
    simp only at this
    omega
  · rw [stp_n j]; exact h
theorem itr_in {rs : List (Int × Int)} (g : Good rs) {a : Int} (h : 0 ≤ a ∧ a ≤ rs.length) : ∀ n, 0 ≤ itr rs n a ∧ itr rs n a ≤ rs.length
  | 0 => h
  | n + 1 => stp_in g (itr_in g h n)
theorem itr_fix {rs : List (Int × Int)} {a : Int} {k : Nat} (h : ¬ isJ rs (itr rs k a)) : ∀ m, itr rs (k + m) a = itr rs k a
  | 0 => rfl
  | m + 1 => by show stp rs (itr rs (k + m) a) = _; rw [itr_fix h m]; exact stp_n h
instance (rs : List (Int × Int)) (a : Int) : Decidable (isJ rs a) := by
  unfold isJ
  cases e : rs[a.toNat]? with
  | none => exact isFalse fun ⟨r, h⟩ => by cases h
  | some p => obtain ⟨o, r⟩ := p; exact if h : o = 4 then isTrue ⟨r, by rw [h]⟩ else isFalse fun ⟨r', h'⟩ => h (by cases h'; rfl)
/-- what meant tells -/
def mean (rs : List (Int × Int)) (a : Int) : V :=
  if itr rs rs.length a = rs.length ∨ isJ rs (itr rs rs.length a) then .non else .int (itr rs rs.length a)
/-- how many of the first n rows stand not in a dict of places -/
def unseen (n : Nat) (P : Nat → Bool) : Nat := ((List.range n).filter P).length
theorem unseen_same {P R : Nat → Bool} : ∀ {n : Nat}, (∀ i, i < n → P i = R i) → unseen n P = unseen n R
  | 0, _ => rfl
  | n + 1, h => by
    unfold unseen
    rw [List.range_succ, List.filter_append, List.filter_append, List.length_append, List.length_append]
    have a := unseen_same (n := n) fun i hi => h i (by omega)
    unfold unseen at a
    rw [a]
    have b := h n (by omega)
    simp [List.filter_cons, b]
theorem unseen_less {P R : Nat → Bool} {x : Nat} : ∀ {n : Nat}, x < n → P x = true → R x = false → (∀ i, i < n → i ≠ x → P i = R i) → unseen n R + 1 = unseen n P
  | 0, h, _, _, _ => by omega
  | n + 1, h, hp, hr, hh => by
    unfold unseen
    rw [List.range_succ, List.filter_append, List.filter_append, List.length_append, List.length_append]
    by_cases e : x = n
    · subst e
      have a := unseen_same (P := P) (R := R) (n := x) fun i hi => hh i (by omega) (by omega)
      unfold unseen at a
      rw [a]
      simp [List.filter_cons, hp, hr]
    · have a := unseen_less (P := P) (R := R) (n := n) (x := x) (by omega) hp hr fun i hi => hh i (by omega)
      unfold unseen at a
      rw [← a]
      have b := hh n (by omega) (by omega)
      simp [List.filter_cons, b]
      split <;> simp <;> omega
theorem unseen_all {n : Nat} {P : Nat → Bool} (h : ∀ i, P i = true) : unseen n P = n := by
  unfold unseen
  rw [List.filter_eq_self.mpr fun i _ => h i, List.length_range]
/-- the places gone by, in a dict -/
def SeenBy (rs : List (Int × Int)) (a : Int) (k : Nat) (kvs : List (Key × V)) : Prop := (∀ x : Int, (valV kvs (Sum.inl x : Key)).isSome = true ↔ ∃ j, j < k ∧ x = itr rs j a) ∧ (∀ j, j < k → isJ rs (itr rs j a)) ∧ kvs.length = k ∧
  k + unseen rs.length (fun i => !(valV kvs (Sum.inl (i : Int) : Key)).isSome) = rs.length
theorem itr_back {rs : List (Int × Int)} {a : Int} {k j : Nat} (hj : j < k) (e : itr rs k a = itr rs j a) : ∀ m, ∃ i, i < k ∧ itr rs m a = itr rs i a
  | 0 => ⟨0, by omega, rfl⟩
  | m + 1 => by
    obtain ⟨i, hi, ei⟩ := itr_back hj e m
    by_cases h : i + 1 < k
    · exact ⟨i + 1, h, by show stp rs (itr rs m a) = stp rs (itr rs i a); rw [ei]⟩
    · have : i + 1 = k := by omega
      exact ⟨j, hj, by rw [← e, ← this]; show stp rs (itr rs m a) = stp rs (itr rs i a); rw [ei]⟩
theorem isJ_in {rs : List (Int × Int)} {a : Int} (h : isJ rs a) (h0 : 0 ≤ a) : a < rs.length := by
  obtain ⟨r, e⟩ := h
  have := (List.getElem?_eq_some_iff.mp e).1
  omega
/-- rows as they lie -/
def RowAt (H : Hp) (v : V) (p : Int × Int) : Prop := ∃ t, v = .ref t ∧ H t = some (.tup [.int p.1, .int p.2])
def RowsAt (H : Hp) (xs : List V) (rs : List (Int × Int)) : Prop := Paired (RowAt H) xs rs
theorem RowAt.mono {H H' : Hp} (S : TupS H H') {v : V} {p : Int × Int} (h : RowAt H v p) : RowAt H' v p := by
  obtain ⟨t, e, ht⟩ := h
  exact ⟨t, e, S _ _ ht⟩
theorem RowsAt.mono {H H' : Hp} (S : TupS H H') {xs : List V} {rs : List (Int × Int)} (h : RowsAt H xs rs) : RowsAt H' xs rs := Paired.mapP h fun _ _ => RowAt.mono S
theorem Paired.at {α β : Type} {F : α → β → Prop} : ∀ {l : List α} {m : List β} {i : Nat} {a : α}, Paired F l m → l[i]? = some a → ∃ b, m[i]? = some b ∧ F a b
  | _, _, _, _, .nil, e => by simp at e
  | _, _, 0, _, .cons r _, e => by simp at e; subst e; exact ⟨_, rfl, r⟩
  | _, _, i + 1, _, .cons _ t, e => by simp at e; obtain ⟨b, h⟩ := Paired.at t e; exact ⟨b, by simpa using h⟩
theorem Paired.app {α β : Type} {F : α → β → Prop} {l : List α} {m : List β} {a : α} {b : β} (h : Paired F l m) (r : F a b) : Paired F (l ++ [a]) (m ++ [b]) := by
  induction h with
  | nil => exact .cons r .nil
  | cons q _ ih => exact .cons q ih
theorem RowsAt.at {H : Hp} {xs : List V} {rs : List (Int × Int)} (h : RowsAt H xs rs) {a : Int} (h0 : 0 ≤ a) (h1 : a < xs.length) : ∃ t p, atI xs a = some (.ref t) ∧ H t = some (.tup [.int p.1, .int p.2]) ∧ rs[a.toNat]? = some p := by
  have hl : a.toNat < xs.length := by omega
  obtain ⟨p, e, t, ev, ht⟩ := Paired.at h (List.getElem?_eq_getElem hl)
  refine ⟨t, p, ?_, ht, e⟩
  rw [← ev]
  exact at_of (by omega) (List.getElem?_eq_getElem hl)
def rowD (r : Int × Int) : PyData := .tuple [.int r.1, .int r.2]
theorem rows_dp {K : PySem.W.Frag} {H : Hp} {l : Addr} {xs : List V} {rs : List (Int × Int)} (hl : H l = some (.lst xs)) (h : RowsAt H xs rs) : Dp K H (.ref l) (.list (rs.map rowD)) := by
  refine .lst (SqL.of hl) ?_
  clear hl
  induction h with
  | nil => exact .nil
  | cons r _ ih =>
    obtain ⟨t, rfl, ht⟩ := r
    exact .cons (.tup (SqT.of ht) (.cons (.int _) (.cons (.int _) .nil))) ih
theorem rows_sh (rs : List (Int × Int)) : Sh 2 (.list (rs.map rowD)) := Sh.list fun d h => by
  obtain ⟨r, _, rfl⟩ := List.mem_map.mp h
  exact Sh.tup fun d h => by
    rcases List.mem_cons.mp h with rfl | h
    · exact Sh.int _
    · rcases List.mem_cons.mp h with rfl | h
      · exact Sh.int _
      · cases h
/-- a script's state: the script, at, left -/
def StAt (K : PySem.W.Frag) (H : Hp) (p : Addr) : Prop := ∃ (sa : Addr) (ns : List Int) (k l : Int), Scr K H sa ns ∧ ns.length ≤ 63 ∧ 0 ≤ k ∧ 0 ≤ l ∧ H p = some (.lst [.ref sa, .int k, .int l])
theorem StAt.ne {K : PySem.W.Frag} {H : Hp} {p q : Addr} (h : StAt K H p) (hq : H q = none) : q ≠ p := by
  obtain ⟨sa, ns, k, l, hS, hns, hk, hl, hp⟩ := h
  exact (ne_of_none hp hq).symm
theorem StAt.but {K : PySem.W.Frag} {H H' : Hp} {p q : Addr} (h : StAt K H p) (B : But q H H') (n : p ≠ q) : StAt K H' p := by
  obtain ⟨sa, ns, k, l, hS, hns, hk, hl, hp⟩ := h
  exact ⟨sa, ns, k, l, hS.but B, hns, hk, hl, B _ _ (.inl n) hp⟩
theorem StAt.same {K : PySem.W.Frag} {H H' : Hp} {p : Addr} (h : StAt K H p) (S : Same H H') : StAt K H' p := by
  obtain ⟨sa, ns, k, l, hS, hns, hk, hl, hp⟩ := h
  exact ⟨sa, ns, k, l, hS.same S, hns, hk, hl, S _ _ hp⟩
theorem StAt.tups {K : PySem.W.Frag} {H H' : Hp} {p : Addr} (h : StAt K H p) (B : But p H H') : TupS H H' := by
  obtain ⟨sa, ns, k, l, hS, hns, hk, hl, hp⟩ := h
  exact TupS.but B hp fun ys e => by cases e
def q_Lcell (Z : Adr) (a b : V) (H : Hp) (Q : VK) (E : XK) : Prop := ∃ sa ns k, a = .ref sa ∧ b = .int k ∧ Scr Z.K H sa ns ∧ 0 ≤ k ∧ ∀ i, Q (.int i) H
def q_Ltake (Z : Adr) (a b : V) (H : Hp) (Q : VK) (E : XK) : Prop := ∃ p m, a = .ref p ∧ b = .int m ∧ 0 < m ∧ m < 1000000 ∧ StAt Z.K H p ∧ ∀ v H', 0 ≤ v → v < m → StAt Z.K H' p → But p H H' → Q (.int v) H'
def q_Lrows (Z : Adr) (a : V) (H : Hp) (Q : VK) (E : XK) : Prop := ∃ p, a = .ref p ∧ StAt Z.K H p ∧ ∀ l xs rs H', StAt Z.K H' p → But p H H' → H' l = some (.lst xs) → H l = none → RowsAt H' xs rs → Good rs → 0 < rs.length → rs.length ≤ 40 → Q (.ref l) H'
def q_meant (Z : Adr) (a b : V) (H : Hp) (Q : VK) (E : XK) : Prop := ∃ l xs rs k, a = .ref l ∧ b = .int k ∧ H l = some (.lst xs) ∧ RowsAt H xs rs ∧ Good rs ∧ rs.length ≤ 1000 ∧ 0 ≤ k ∧ k ≤ rs.length ∧ ∀ H', Same H H' → Q (mean rs k) H'
def q_Ldue (Z : Adr) (a b : V) (H : Hp) (Q : VK) (E : XK) : Prop := ∃ l xs rs k, a = .ref l ∧ b = .int k ∧ H l = some (.lst xs) ∧ RowsAt H xs rs ∧ Good rs ∧ rs.length ≤ 1000 ∧ 0 ≤ k ∧ k ≤ rs.length ∧ Q (mean rs k) H
def q_law (Z : Adr) (v : V) (H : Hp) (Q : VK) (E : XK) : Prop := ∃ (a : Addr) (ns : List Int), v = .ref a ∧ Only H ∧ Scr Z.K H a ns ∧ ns.length ≤ 63 ∧ ∀ H', Q (.bl true) H'

def sp_meant (Z : Adr) : Sp := Sp2 (q_meant Z)
theorem cl_meant {Z : Adr} {a0 a1 : V} {H : Hp} {Q : VK} {E : XK} (h : q_meant Z a0 a1 H Q E) : sp_meant Z [a0, a1] H Q E := ⟨a0, a1, rfl, h⟩
def sp_Lcell (Z : Adr) : Sp := Sp2 (q_Lcell Z)
theorem cl_Lcell {Z : Adr} {a0 a1 : V} {H : Hp} {Q : VK} {E : XK} (h : q_Lcell Z a0 a1 H Q E) : sp_Lcell Z [a0, a1] H Q E := ⟨a0, a1, rfl, h⟩
def sp_Ltake (Z : Adr) : Sp := Sp2 (q_Ltake Z)
theorem cl_Ltake {Z : Adr} {a0 a1 : V} {H : Hp} {Q : VK} {E : XK} (h : q_Ltake Z a0 a1 H Q E) : sp_Ltake Z [a0, a1] H Q E := ⟨a0, a1, rfl, h⟩
def sp_Lrows (Z : Adr) : Sp := Sp1 (q_Lrows Z)
theorem cl_Lrows {Z : Adr} {a0 : V} {H : Hp} {Q : VK} {E : XK} (h : q_Lrows Z a0 H Q E) : sp_Lrows Z [a0] H Q E := ⟨a0, rfl, h⟩
def sp_Ldue (Z : Adr) : Sp := Sp2 (q_Ldue Z)
theorem cl_Ldue {Z : Adr} {a0 a1 : V} {H : Hp} {Q : VK} {E : XK} (h : q_Ldue Z a0 a1 H Q E) : sp_Ldue Z [a0, a1] H Q E := ⟨a0, a1, rfl, h⟩
def sp_law (Z : Adr) : Sp := Sp1 (q_law Z)
theorem cl_law {Z : Adr} {a0 : V} {H : Hp} {Q : VK} {E : XK} (h : q_law Z a0 H Q E) : sp_law Z [a0] H Q E := ⟨a0, rfl, h⟩
def t_meant (Z : Adr) (W : WX) : TS := (tSeq (tAsg tDNewK (gName 2))
    (tSeq (tWhile (tAnd (tTest (tOp (rI0 fun i j => .bl (decide (i < j))) (tVar 1) (tCB (rLen Z.K) (tCons (tVar 0) tNil)))) (tTest (tOp (rEqU Z.K) (tOp (rIx Z.K) (tOp (rIx Z.K) (tVar 0) (tVar 1)) (tC (.int 0))) (tC (.int 4))))) (tSeq (tIfS (tB (tDIn (tVar 1) (tVar 2))) (tRet (tC .non)) tNext)
    (tSeq (sDPut (tVar 2) (tVar 1) (tC (.bl true)))
    (tAsg (tOp (rIx Z.K) (tOp (rIx Z.K) (tVar 0) (tVar 1)) (tC (.int 1))) (gName 1)))))
    (tSeq (tIfS (tTest (tOp (rI0 fun i j => .bl (decide (j ≤ i))) (tVar 1) (tCB (rLen Z.K) (tCons (tVar 0) tNil)))) (tRet (tC .non)) tNext)
    (tRet (tVar 1)))))
def t_Lcell (Z : Adr) (W : WX) : TS := (tSeq (tIfS (tTest (tOp (rI0 fun i j => .bl (decide (i < j))) (tVar 1) (tCB (rLen Z.K) (tCons (tVar 0) tNil)))) (tRet (tOp (rIx Z.K) (tVar 0) (tVar 1))) tNext)
    (tRet (tC (.int 0))))
def t_Ltake (Z : Adr) (W : WX) : TS := (tSeq (tAsg (tVar 0) (gUn Z.K 3 (gCons (gName 2) (gCons (gName 3) (gCons (gName 4) gNil)))))
    (tSeq (tIfS (tTest (tOp (rEqU Z.K) (tVar 4) (tC (.int 0)))) (tSeq (tAsg (tCallS (sp_Lcell Z) (WE W) (tCons (tVar 2) (tCons (tOp rMod (tVar 3) (tC (.int 63))) tNil))) (gName 5))
    (tSeq (tAsg (tOp (rAddU Z.K) (tVar 3) (tC (.int 1))) (gSub (tVar 0) (tC (.int 1)) rSetL))
    (tIfS (tAnd (tTest (tOp (rI0 fun i j => .bl (decide (i < j))) (tVar 3) (tCB (rLen Z.K) (tCons (tVar 2) tNil)))) (tTest (tOp (rI0 fun i j => .bl (decide (j ≤ i))) (tVar 5) (tOp (rI CPow fun i j => .int (i ^ j.toNat)) (tC (.int 10)) (tC (.int 18)))))) (tAsg (tVar 5) (gName 4)) (tSeq (tAsg (tOp rMod (tOp rMul (tOp (rAddU Z.K) (tOp (rAddU Z.K) (tOp rMod (tVar 5) (tC (.int 2147483647))) (tOp rMul (tC (.int 31)) (tVar 3))) (tC (.int 17))) (tC (.int 48271))) (tC (.int 2147483629))) (gName 6))
    (tSeq (tAsg (tOp rMod (tOp (rAddU Z.K) (tOp (rAddU Z.K) (tOp rMul (tVar 6) (tVar 6)) (tOp rMul (tC (.int 69621)) (tVar 6))) (tVar 3)) (tC (.int 2147483587))) (gName 6))
    (tRet (tOp rMod (tOp rFdv (tVar 6) (tC (.int 7))) (tVar 1)))))))) tNext)
    (tSeq (tAsg (tOp rFdv (tVar 4) (tVar 1)) (gSub (tVar 0) (tC (.int 2)) rSetL))
    (tRet (tOp rMod (tVar 4) (tVar 1))))))
def t_Lrows (Z : Adr) (W : WX) : TS := (tSeq (tAsg (tOp (rAddU Z.K) (tC (.int 1)) (tCallS (sp_Ltake Z) (WE W) (tCons (tVar 0) (tCons (tOp (rIx Z.K) (tLst (tCons (tC (.int 6)) (tCons (tC (.int 40)) tNil))) (tCallS (sp_Ltake Z) (WE W) (tCons (tVar 0) (tCons (tC (.int 2)) tNil)))) tNil)))) (gName 1))
    (tSeq (tAsg (tOp (rAddU Z.K) (tC (.int 1)) (tCallS (sp_Ltake Z) (WE W) (tCons (tVar 0) (tCons (tC (.int 9)) tNil)))) (gName 2))
    (tSeq (tAsg (tLst tNil) (gName 3))
    (tSeq (tFor (iRng1 (tCons (tVar 1) tNil)) (gName 4) (tSeq (tAsg (tCallS (sp_Ltake Z) (WE W) (tCons (tVar 0) (tCons (tC (.int 10)) tNil))) (gName 5))
    (tSeq (tAsg (tLst (tCons (tCallS (sp_Ltake Z) (WE W) (tCons (tVar 0) (tCons (tVar 1) tNil))) (tCons (tCB rMin2 (tCons (tOp (rI0 fun i j => .int (i - j)) (tVar 1) (tC (.int 1))) (tCons (tOp (rAddU Z.K) (tVar 4) (tC (.int 1))) tNil))) (tCons (tCB rMax2 (tCons (tC (.int 0)) (tCons (tOp (rI0 fun i j => .int (i - j)) (tVar 4) (tC (.int 1))) tNil))) (tCons (tVar 4) (tCons (tCallS (sp_Ltake Z) (WE W) (tCons (tVar 0) (tCons (tVar 1) tNil))) tNil)))))) (gName 6))
    (tSeq (tAsg (tOp (rIx Z.K) (tVar 6) (tCallS (sp_Ltake Z) (WE W) (tCons (tVar 0) (tCons (tC (.int 5)) tNil)))) (gName 7))
    (tIfS (tTest (tOp (rI0 fun i j => .bl (decide (i < j))) (tVar 5) (tVar 2))) (tDrop (tBM Z.K "list" rAppend (tVar 3) (tCons (tTup (tCons (tC (.int 4)) (tCons (tVar 7) tNil))) tNil))) (tDrop (tBM Z.K "list" rAppend (tVar 3) (tCons (tOp (rIx Z.K) (tLst (tCons (tTup (tCons (tC (.int 0)) (tCons (tC (.int 4)) tNil))) (tCons (tTup (tCons (tC (.int 5)) (tCons (tVar 7) tNil))) (tCons (tTup (tCons (tC (.int 7)) (tCons (tC (.int 0)) tNil))) (tCons (tTup (tCons (tC (.int 10)) (tCons (tC (.int 8)) tNil))) (tCons (tTup (tCons (tC (.int 1)) (tCons (tC (.int 4)) tNil))) tNil)))))) (tCallS (sp_Ltake Z) (WE W) (tCons (tVar 0) (tCons (tC (.int 5)) tNil)))) tNil))))))))
    (tRet (tVar 3))))))
def t_Ldue (Z : Adr) (W : WX) : TS := (tSeq (tFor (iRng1 (tCons (tCB (rLen Z.K) (tCons (tVar 0) tNil)) tNil)) (gName 2) (tIfS (tAnd (tTest (tOp (rI0 fun i j => .bl (decide (i < j))) (tVar 1) (tCB (rLen Z.K) (tCons (tVar 0) tNil)))) (tTest (tOp (rEqU Z.K) (tOp (rIx Z.K) (tOp (rIx Z.K) (tVar 0) (tVar 1)) (tC (.int 0))) (tC (.int 4))))) (tAsg (tOp (rIx Z.K) (tOp (rIx Z.K) (tVar 0) (tVar 1)) (tC (.int 1))) (gName 1)) tNext))
    (tSeq (tIfS (tOr (tTest (tOp (rEqU Z.K) (tVar 1) (tCB (rLen Z.K) (tCons (tVar 0) tNil)))) (tTest (tOp (rEqU Z.K) (tOp (rIx Z.K) (tOp (rIx Z.K) (tVar 0) (tVar 1)) (tC (.int 0))) (tC (.int 4))))) (tRet (tC .non)) tNext)
    (tRet (tVar 1))))
def t_law (Z : Adr) (W : WX) : TS := (tSeq (tAsg (tLst (tCons (tVar 0) (tCons (tC (.int 0)) (tCons (tC (.int 0)) tNil)))) (gName 1))
    (tSeq (tFor (iRng1 (tCons (tC (.int 3)) tNil)) (gName 2) (tSeq (tAsg (tCallS (sp_Lrows Z) (WE W) (tCons (tVar 1) tNil)) (gName 3))
    (tSeq (tAsg (tCB (rListOf Z.K) (tCons (tVar 3) tNil)) (gName 4))
    (tFor (iRng1 (tCons (tOp (rAddU Z.K) (tCB (rLen Z.K) (tCons (tVar 3) tNil)) (tC (.int 1))) tNil)) (gName 5) (tSeq (tAsg (tCallS (sp_meant Z) (WE W) (tCons (tVar 4) (tCons (tVar 5) tNil))) (gName 6))
    (tSeq (tAsg (tCallS (sp_Ldue Z) (WE W) (tCons (tVar 3) (tCons (tVar 5) tNil))) (gName 7))
    (tIfS (tOr (tTest (tOp (rNeU Z.K) (tVar 6) (tVar 7))) (tOr (tB (tCB (rIsi2 Z.K) (tCons (tVar 6) (tCons (tC (.ty "bool")) tNil)))) (tTest (tOp (rNeU Z.K) (tVar 4) (tVar 3))))) (tRet (tC (.bl false))) tNext)))))))
    (tRet (tC (.bl true)))))
end My
namespace My
open PySem L2 Z
theorem rd_meant {Z : Adr} (T : Top Z) {a0 a1 : V} {H : Hp} {Q : VK} {E : XK} (h : q_meant Z a0 a1 H Q E) : t_meant Z (fun cls d _ H => E cls d H) ⟨fun _ H' => Q .non H', Q, fun _ _ => False, fun _ _ => False⟩ [some a0, some a1, none] H := by
  unfold t_meant
  obtain ⟨l, xs, rs, k, rfl, rfl, hl, hR, hG, hz, h0, h1, q⟩ := h
  have hlen : xs.length = rs.length := Paired.length hR
  walk_at "zz"
  intro d hd
  have nld : l ≠ d := ne_of_none hl hd
  walk_at "zz"
  refine s_while (fun m σ' H' => ∃ (n : Nat) (kvs : List (Key × V)), Same H H' ∧ H' d = some (.dK kvs) ∧ SeenBy rs k n kvs ∧ m = unseen rs.length (fun i => !(valV kvs (Sum.inl (i : Int) : Key)).isSome) ∧ σ' = [some (.ref l), some (.int (itr rs n k)), some (.ref d)]) _ ⟨0, [], same_new hd, upd_same, ⟨fun x => by simp [valV_nil], fun j hj => by omega, rfl, by rw [unseen_all fun i => by rw [valV_nil]; rfl]; omega⟩, rfl, rfl⟩ ?_
  rintro m σ' H' ⟨n, kvs, S, hd', ⟨hs1, hs2, hs3, hs4⟩, rfl, rfl⟩
  have hl' := S _ _ hl
  have hR' := hR.mono (TupS.of S)
  have hin := itr_in hG ⟨h0, h1⟩ n
  have cell : ∀ a : Int, 0 ≤ a → a < (xs.length : Int) → ∃ t p, atI xs a = some (.ref t) ∧ H' t = some (.tup [.int p.1, .int p.2]) ∧ rs[a.toNat]? = some p := fun a => hR'.at
  have hnn : n ≤ rs.length := by omega
  have stop : ¬ isJ rs (itr rs n k) → itr rs rs.length k = itr rs n k := fun nj => by
    have := itr_fix nj (rs.length - n)
    rwa [show n + (rs.length - n) = rs.length by omega] at this
  walk_at "zz"
  refine s_ifd (fun c => ?_) (fun c => ?_)
  · obtain ⟨t, p, e1, e2, e3⟩ := cell _ hin.1 (by omega)
    walk_at "zz"
    refine s_ix_l (SqL.of hl') e1 (s_c ?_)
    refine s_ix_t (SqT.of e2) rfl ?_
    walk_at "zz"
    refine s_ifd (fun c2 => ?_) (fun c2 => ?_)
    · have e3' : rs[(itr rs n k).toNat]? = some (4, p.2) := by rw [e3, ← c2]
      have jj : isJ rs (itr rs n k) := ⟨p.2, e3'⟩
      walk_at "zz"
      refine s_zDIn_i (.inl hd') ?_
      walk_at "zz"
      refine s_ifk (fun c3 => ?_) (fun c3 => ?_)
      · walk_at "zz"
        obtain ⟨j, hj, ej⟩ := (hs1 _).mp c3
        obtain ⟨i, hi, ei⟩ := itr_back hj ej rs.length
        have hq := q H' S
        unfold mean at hq
        rw [ei, if_pos (.inr (hs2 i hi))] at hq
        exact hq
      · walk_at "zz"
        have hno : valV kvs (Sum.inl (itr rs n k) : Key) = none := by
          cases e : valV kvs (Sum.inl (itr rs n k) : Key) with
          | none => rfl
          | some _ => rw [e] at c3; cases c3
        refine s_zDPut_i hd' (small1000 (by omega)) ?_
        have nl : l ≠ d := nld
        have nt : t ≠ d := ne_of e2 hd' (by intro z; cases z)
        walk_at "zz"
        refine s_ix_l (SqL.of (up_far nl hl')) e1 (s_c ?_)
        refine s_ix_t (SqT.of (up_far nt e2)) rfl ?_
        walk_at "zz"
        have hless := unseen_less (n := rs.length) (x := (itr rs n k).toNat) (P := fun i => !(valV kvs (Sum.inl (i : Int) : Key)).isSome) (R := fun i => !(valV (putK kvs (Sum.inl (itr rs n k) : Key) (.bl true)) (Sum.inl (i : Int) : Key)).isSome)
          (by omega) (by show (!(valV kvs (Sum.inl (((itr rs n k).toNat : Nat) : Int) : Key)).isSome) = true; rw [Int.toNat_of_nonneg hin.1, hno]; rfl)
          (by show (!(valV (putK kvs (Sum.inl (itr rs n k) : Key) (.bl true)) (Sum.inl (((itr rs n k).toNat : Nat) : Int) : Key)).isSome) = false; rw [Int.toNat_of_nonneg hin.1, valV_put, if_pos rfl]; rfl)
          (fun i _ hne => by
            show (!(valV kvs (Sum.inl (i : Int) : Key)).isSome) = (!(valV (putK kvs (Sum.inl (itr rs n k) : Key) (.bl true)) (Sum.inl (i : Int) : Key)).isSome)
            rw [valV_put, if_neg (fun z => hne (by have := Sum.inl.inj z; omega))])
        refine ⟨_, ?_, n + 1, _, same_own S (up_but hd' fun z => z) hd, upd_same, ⟨?_, ?_, ?_, ?_⟩, rfl, by rw [show itr rs (n + 1) k = p.2 from stp_j e3'] <;> rfl⟩
        · omega
        · intro x
          rw [valV_put]
          by_cases ex : (Sum.inl x : Key) = Sum.inl (itr rs n k)
          · rw [if_pos ex]
            exact ⟨fun _ => ⟨n, by omega, Sum.inl.inj ex⟩, fun _ => rfl⟩
          · rw [if_neg ex, hs1]
            refine ⟨fun ⟨j, hj, e⟩ => ⟨j, by omega, e⟩, fun ⟨j, hj, e⟩ => ⟨j, ?_, e⟩⟩
            by_cases hjn : j = n
            · subst hjn; exact absurd (by rw [e]) ex
            · omega
        · intro j hj
          by_cases hjn : j = n
          · subst hjn; exact jj
          · exact hs2 j (by omega)
        · rw [putK_new _ hno, List.length_append, hs3]; rfl
        · omega
    · walk_at "zz"
      have nj : ¬ isJ rs (itr rs n k) := fun ⟨r, e⟩ => c2 (by rw [e3] at e; cases e; rfl)
      refine s_ifd (fun c3 => by omega) (fun c3 => ?_)
      walk_at "zz"
      have hq := q H' S
      unfold mean at hq
      rw [stop nj, if_neg (by rintro (z | z); · omega
                              · exact nj z)] at hq
      exact hq
  · walk_at "zz"
    have nj : ¬ isJ rs (itr rs n k) := fun z => by have := isJ_in z hin.1; omega
    refine s_ifd (fun c3 => ?_) (fun c3 => by omega)
    walk_at "zz"
    have hq := q H' S
    unfold mean at hq
    rw [stop nj, if_pos (.inl (by omega))] at hq
    exact hq

theorem rd_Lcell {Z : Adr} (T : Top Z) {a0 a1 : V} {H : Hp} {Q : VK} {E : XK} (h : q_Lcell Z a0 a1 H Q E) : t_Lcell Z (fun cls d _ H => E cls d H) ⟨fun _ H' => Q .non H', Q, fun _ _ => False, fun _ _ => False⟩ [some a0, some a1] H := by
  unfold t_Lcell
  obtain ⟨sa, ns, k, rfl, rfl, hS, h0, q⟩ := h
  have hl := hS.sq
  walk_at "zz"
  refine s_ifd (fun c => ?_) (fun c => ?_)
  · walk_at "zz"
    rw [List.length_map] at c
    obtain ⟨v, hv⟩ : ∃ v, ns[k.toNat]? = some v := ⟨ns[k.toNat]'(by omega), List.getElem?_eq_getElem _⟩
    refine s_ix_l hl (at_of (j := k.toNat) (v := .int v) (by omega) (by rw [List.getElem?_map, hv]; rfl)) ?_
    exact q _
  · walk_at "zz"
    exact q _

theorem rd_Ltake {Z : Adr} (T : Top Z) {a0 a1 : V} {H : Hp} {Q : VK} {E : XK} (h : q_Ltake Z a0 a1 H Q E) : t_Ltake Z (fun cls d _ H => E cls d H) ⟨fun _ H' => Q .non H', Q, fun _ _ => False, fun _ _ => False⟩ [some a0, some a1, none, none, none, none, none] H := by
  unfold t_Ltake
  obtain ⟨p, m, rfl, rfl, hm, hm2, hSt, q⟩ := h
  obtain ⟨sa, ns, k, l, hS, hns, hk, hl, hp⟩ := hSt
  have hl' := hS.sq
  walk_at "zz"
  refine s_ifd (fun c => ?_) (fun c => ?_)
  · walk_at "zz"
    refine cl_Lcell ⟨sa, ns, k % 63, rfl, rfl, hS, by omega, fun i => ?_⟩
    walk_at "zz"
    refine c_setL 1 [.ref sa, .int (k + 1), .int l] hp rfl rfl fun H1 B1 hp1 => ?_
    have hS1 := hS.but B1
    have hl1 := hS1.sq
    walk_at "zz"
    refine s_ifd (fun c1 => ?_) (fun c1 => ?_)
    · walk_at "zz"
      refine s_ifd (fun c2 => ?_) (fun c2 => ?_)
      · walk_at "zz"
        refine c_setL 2 [.ref sa, .int (k + 1), .int (i / m)] hp1 rfl rfl fun H2 B2 hp2 => ?_
        walk_at "zz"
        exact q _ _ (Int.emod_nonneg _ (by omega)) (Int.emod_lt_of_pos _ hm) ⟨sa, ns, k + 1, i / m, hS1.but B2, hns, by omega, Int.ediv_nonneg (by omega) (by omega), hp2⟩ (B1.trans B2)
      · walk_at "zz"
        exact q _ _ (Int.emod_nonneg _ (by omega)) (Int.emod_lt_of_pos _ hm) ⟨sa, ns, k + 1, l, hS1, hns, by omega, hl, hp1⟩ B1
    · walk_at "zz"
      exact q _ _ (Int.emod_nonneg _ (by omega)) (Int.emod_lt_of_pos _ hm) ⟨sa, ns, k + 1, l, hS1, hns, by omega, hl, hp1⟩ B1
  · walk_at "zz"
    refine c_setL 2 [.ref sa, .int k, .int (l / m)] hp rfl rfl fun H2 B2 hp2 => ?_
    walk_at "zz"
    exact q _ _ (Int.emod_nonneg _ (by omega)) (Int.emod_lt_of_pos _ hm) ⟨sa, ns, k, l / m, hS.but B2, hns, hk, Int.ediv_nonneg (by omega) (by omega), hp2⟩ B2

theorem rd_Lrows {Z : Adr} (T : Top Z) {a0 : V} {H : Hp} {Q : VK} {E : XK} (h : q_Lrows Z a0 H Q E) : t_Lrows Z (fun cls d _ H => E cls d H) ⟨fun _ H' => Q .non H', Q, fun _ _ => False, fun _ _ => False⟩ [some a0, none, none, none, none, none, none, none] H := by
  unfold t_Lrows
  obtain ⟨p, rfl, hSt, q⟩ := h
  walk_at "zz"
  intro q1 hq1
  have n1 := hSt.ne hq1
  have S1 := hSt.same (same_new (o := .lst [V.int 6, V.int 40]) hq1)
  walk_at "zz"
  refine cl_Ltake ⟨p, 2, rfl, rfl, by omega, by omega, S1, fun v1 H1 v1a v1b S2 B1 => ?_⟩
  have hl1 : H1 q1 = some (.lst [V.int 6, V.int 40]) := B1.rd n1 upd_same
  obtain ⟨w, hw, ew⟩ := at_ints [6, 40] (i := v1) v1a (by simpa using v1b)
  refine s_ix_l (SqL.of hl1) ew ?_
  have hw' : 0 < w ∧ w ≤ 40 := by simp at hw; omega
  walk_at "zz"
  refine cl_Ltake ⟨p, w, rfl, rfl, by omega, by omega, S2, fun v2 H2 v2a v2b S3 B2 => ?_⟩
  walk_at "zz"
  refine cl_Ltake ⟨p, 9, rfl, rfl, by omega, by omega, S3, fun v3 H3 v3a v3b S4 B3 => ?_⟩
  walk_at "zz"
  intro l hl
  have n2 := S4.ne hl
  have B3' : But p H H3 := ((((But.refl p H).new hq1).trans B1).trans B2).trans B3
  have hlH : H l = none := B3'.none n2 hl
  walk_at "zz"
  refine loop_range (fun i σ' H' => StAt Z.K H' p ∧ But p H H' ∧ ∃ xs rs a b c d, H' l = some (.lst xs) ∧ RowsAt H' xs rs ∧ (∀ r ∈ rs, r.1 = 4 → 0 ≤ r.2 ∧ r.2 < 1 + v2) ∧ rs.length = i ∧ σ' = [some (.ref p), some (.int (1 + v2)), some (.int (1 + v3)), some (.ref l), a, b, c, d])
    ⟨S4.same (same_new hl), B3'.new hl, [], [], none, none, none, none, upd_same, .nil, by simp, rfl, rfl⟩ ?_ ?_
  · rintro i σ' H' hi ⟨S5, B5, xs, rs, a, b, c, d, hx, hR, hG, hlen, rfl⟩
    have hlen' : xs.length = rs.length := Paired.length hR
    walk_at "zz"
    refine cl_Ltake ⟨p, 10, rfl, rfl, by omega, by omega, S5, fun v6 H6 v6a v6b S6 B6 => ?_⟩
    walk_at "zz"
    refine cl_Ltake ⟨p, 1 + v2, rfl, rfl, by omega, by omega, S6, fun v7 H7 v7a v7b S7 B7 => ?_⟩
    walk_at "zz"
    refine cl_Ltake ⟨p, 1 + v2, rfl, rfl, by omega, by omega, S7, fun v8 H8 v8a v8b S8 B8 => ?_⟩
    walk_at "zz"
    intro q2 hq2
    have n3 := S8.ne hq2
    walk_at "zz"
    refine cl_Ltake ⟨p, 5, rfl, rfl, by omega, by omega, S8.same (same_new hq2), fun v9 H9 v9a v9b S9 B9 => ?_⟩
    have hl9 := B9.rd n3 (upd_same (H := H8) (a := q2))
    obtain ⟨w2, hw2, ew2⟩ := at_ints [v7, if 0 + (i : Int) + 1 < 1 + v2 - 1 then 0 + (i : Int) + 1 else 1 + v2 - 1, if 0 + (i : Int) - 1 > 0 then 0 + (i : Int) - 1 else 0, 0 + (i : Int), v8] (i := v9) v9a (by simpa using v9b)
    refine s_ix_l (SqL.of hl9) ew2 ?_
    have hw2' : 0 ≤ w2 ∧ w2 < 1 + v2 := by
      simp only [List.mem_cons, List.not_mem_nil, or_false] at hw2
      rcases hw2 with e | e | e | e | e
      · omega
      · split at e <;> omega
      · split at e <;> omega
      · omega
      · omega
    have B9' : But p H' H9 := ((((B6.trans B7).trans B8).new hq2)).trans B9
    have hx9 : H9 l = some (.lst xs) := B9'.rd n2 hx
    have hR9 : RowsAt H9 xs rs := hR.mono (S5.tups B9')
    have B9h := B5.trans B9'
    walk_at "zz"
    refine s_ifd (fun c1 => ?_) (fun c1 => ?_)
    · walk_at "zz"
      intro t ht
      walk_at "zz"
      refine c_append (up_new ht hx9) (small1000 (by omega)) fun H10 B10 h10 => ?_
      walk_at "zz"
      have T10 : TupS (upd H9 t (.tup [.int 4, .int w2])) H10 := TupS.but B10 (up_new ht hx9) fun ys e => by cases e
      refine ⟨(S9.same (same_new ht)).but B10 n2.symm, (B9h.new ht).own B10 hlH, _, rs ++ [(4, w2)], _, _, _, _, h10, ?_, ?_, by simp [hlen], rfl⟩
      · exact Paired.app ((hR9.mono (TupS.new ht)).mono T10) ⟨t, rfl, T10 _ _ upd_same⟩
      · intro r hr
        rcases List.mem_append.mp hr with z | z
        · exact hG r z
        · cases List.mem_singleton.mp z
          intro _
          exact hw2'
    · walk_at "zz"
      intro t0 ht0
      walk_at "zz"
      intro t1 ht1
      walk_at "zz"
      intro t2 ht2
      walk_at "zz"
      intro t3 ht3
      walk_at "zz"
      intro t4 ht4
      walk_at "zz"
      intro q5 hq5
      walk_at "zz"
      have S10 := (((((S9.same (same_new (o := .tup [.int 0, .int 4]) ht0)).same (same_new (o := .tup [.int 5, .int w2]) ht1)).same (same_new (o := .tup [.int 7, .int 0]) ht2)).same (same_new (o := .tup [.int 10, .int 8]) ht3)).same (same_new (o := .tup [.int 1, .int 4]) ht4)).same (same_new (o := .lst [.ref t0, .ref t1, .ref t2, .ref t3, .ref t4]) hq5)
      refine cl_Ltake ⟨p, 5, rfl, rfl, by omega, by omega, S10, fun v10 H10 v10a v10b S11 B11 => ?_⟩
      have n4 : q5 ≠ p := by
        obtain ⟨_, _, _, _, _, _, _, _, z⟩ := (((((S9.same (same_new (o := .tup [.int 0, .int 4]) ht0)).same (same_new (o := .tup [.int 5, .int w2]) ht1)).same (same_new (o := .tup [.int 7, .int 0]) ht2)).same (same_new (o := .tup [.int 10, .int 8]) ht3)).same (same_new (o := .tup [.int 1, .int 4]) ht4))
        exact (ne_of_none z hq5).symm
      have TT := S10.tups B11
      have e5 := B11.rd n4 upd_same
      have r0 : RowAt H10 (.ref t0) (0, 4) := ⟨t0, rfl, TT _ _ (up_new hq5 (up_new ht4 (up_new ht3 (up_new ht2 (up_new ht1 upd_same)))))⟩
      have r1 : RowAt H10 (.ref t1) (5, w2) := ⟨t1, rfl, TT _ _ (up_new hq5 (up_new ht4 (up_new ht3 (up_new ht2 upd_same))))⟩
      have r2 : RowAt H10 (.ref t2) (7, 0) := ⟨t2, rfl, TT _ _ (up_new hq5 (up_new ht4 (up_new ht3 upd_same)))⟩
      have r3 : RowAt H10 (.ref t3) (10, 8) := ⟨t3, rfl, TT _ _ (up_new hq5 (up_new ht4 upd_same))⟩
      have r4 : RowAt H10 (.ref t4) (1, 4) := ⟨t4, rfl, TT _ _ (up_new hq5 upd_same)⟩
      obtain ⟨y, o, eo, ro, no⟩ : ∃ y o, atI [V.ref t0, .ref t1, .ref t2, .ref t3, .ref t4] v10 = some y ∧ RowAt H10 y o ∧ o.1 ≠ 4 := by
        obtain e | e | e | e | e : v10 = 0 ∨ v10 = 1 ∨ v10 = 2 ∨ v10 = 3 ∨ v10 = 4 := by omega
        · subst e; exact ⟨_, _, rfl, r0, by decide⟩
        · subst e; exact ⟨_, _, rfl, r1, by show (5 : Int) ≠ 4; decide⟩
        · subst e; exact ⟨_, _, rfl, r2, by decide⟩
        · subst e; exact ⟨_, _, rfl, r3, by decide⟩
        · subst e; exact ⟨_, _, rfl, r4, by decide⟩
      refine s_ix_l (SqL.of e5) eo ?_
      have B12 : But p H H10 := ((((((B9h.new ht0).new ht1).new ht2).new ht3).new ht4).new hq5).trans B11
      have hx12 : H10 l = some (.lst xs) := B11.rd n2 (up_new hq5 (up_new ht4 (up_new ht3 (up_new ht2 (up_new ht1 (up_new ht0 hx9))))))
      have hR12 : RowsAt H10 xs rs := ((((((hR9.mono (TupS.new ht0)).mono (TupS.new ht1)).mono (TupS.new ht2)).mono (TupS.new ht3)).mono (TupS.new ht4)).mono (TupS.new hq5)).mono TT
      walk_at "zz"
      refine c_append hx12 (small1000 (by omega)) fun H13 B13 h13 => ?_
      walk_at "zz"
      have T13 : TupS H10 H13 := TupS.but B13 hx12 fun ys e => by cases e
      refine ⟨S11.but B13 n2.symm, B12.own B13 hlH, _, rs ++ [o], _, _, _, _, h13, Paired.app (hR12.mono T13) (ro.mono T13), ?_, by simp [hlen], rfl⟩
      intro r hr
      rcases List.mem_append.mp hr with z | z
      · exact hG r z
      · cases List.mem_singleton.mp z
        intro z4
        exact absurd z4 no
  · rintro σ' H' ⟨S5, B5, xs, rs, a, b, c, d, hx, hR, hG, hlen, rfl⟩
    walk_at "zz"
    have hle : (rs.length : Int) = 1 + v2 := by omega
    exact q l xs rs H' S5 B5 hx hlH hR (fun r hr h4 => by rw [hle]; exact hG r hr h4) (by omega) (by omega)

theorem rd_Ldue {Z : Adr} (T : Top Z) {a0 a1 : V} {H : Hp} {Q : VK} {E : XK} (h : q_Ldue Z a0 a1 H Q E) : t_Ldue Z (fun cls d _ H => E cls d H) ⟨fun _ H' => Q .non H', Q, fun _ _ => False, fun _ _ => False⟩ [some a0, some a1, none] H := by
  unfold t_Ldue
  obtain ⟨l, xs, rs, k, rfl, rfl, hl, hR, hG, hz, h0, h1, q⟩ := h
  have hlen : xs.length = rs.length := Paired.length hR
  have cell : ∀ a : Int, 0 ≤ a → a < (xs.length : Int) → ∃ t p, atI xs a = some (.ref t) ∧ H t = some (.tup [.int p.1, .int p.2]) ∧ rs[a.toNat]? = some p := fun a => hR.at
  walk_at "zz"
  refine loop_range (fun i σ' H' => H' = H ∧ ∃ v, σ' = [some (.ref l), some (.int (itr rs i k)), v]) ⟨rfl, none, rfl⟩ ?_ ?_
  · rintro i σ' H' hi ⟨rfl, v, rfl⟩
    have hin := itr_in hG ⟨h0, h1⟩ i
    walk_at "zz"
    refine s_ifd (fun c => ?_) (fun c => ?_)
    · obtain ⟨t, p, e1, e2, e3⟩ := cell _ hin.1 (by omega)
      walk_at "zz"
      refine s_ix_l (SqL.of hl) e1 (s_c ?_)
      refine s_ix_t (SqT.of e2) rfl ?_
      walk_at "zz"
      refine s_ifd (fun c2 => ?_) (fun c2 => ?_)
      · walk_at "zz"
        refine s_ix_l (SqL.of hl) e1 (s_c ?_)
        refine s_ix_t (SqT.of e2) rfl ?_
        walk_at "zz"
        have e3' : rs[(itr rs i k).toNat]? = some (4, p.2) := by rw [e3, ← c2]
        exact ⟨rfl, _, by rw [show itr rs (i + 1) k = p.2 from stp_j e3'] <;> rfl⟩
      · walk_at "zz"
        have nj : ¬ isJ rs (itr rs i k) := fun ⟨r, e⟩ => c2 (by rw [e3] at e; cases e; rfl)
        exact ⟨rfl, _, by rw [show itr rs (i + 1) k = itr rs i k from stp_n nj] <;> rfl⟩
    · walk_at "zz"
      have nj : ¬ isJ rs (itr rs i k) := fun ⟨r, e⟩ => by
        have := (List.getElem?_eq_some_iff.mp e).1
        omega
      exact ⟨rfl, _, by rw [show itr rs (i + 1) k = itr rs i k from stp_n nj] <;> rfl⟩
  · rintro σ' H' ⟨rfl, v, rfl⟩
    have hn : ((xs.length : Int)).toNat = rs.length := by omega
    rw [hn]
    have hin := itr_in hG ⟨h0, h1⟩ rs.length
    unfold mean at q
    walk_at "zz"
    refine s_ifd (fun c => ?_) (fun c => ?_)
    · walk_at "zz"
      rw [if_pos (.inl (by omega))] at q
      exact q
    · obtain ⟨t, p, e1, e2, e3⟩ := cell _ hin.1 (by omega)
      walk_at "zz"
      refine s_ix_l (SqL.of hl) e1 (s_c ?_)
      refine s_ix_t (SqT.of e2) rfl ?_
      walk_at "zz"
      refine s_ifd (fun c2 => ?_) (fun c2 => ?_)
      · walk_at "zz"
        rw [if_pos (.inr ⟨p.2, by rw [e3, ← c2]⟩)] at q
        exact q
      · walk_at "zz"
        rw [if_neg (by
          rintro (z | ⟨r, e⟩)
          · omega
          · exact c2 (by rw [e3] at e; cases e; rfl))] at q
        exact q

theorem rd_law {Z : Adr} (T : Top Z) {a0 : V} {H : Hp} {Q : VK} {E : XK} (h : q_law Z a0 H Q E) : t_law Z (fun cls d _ H => E cls d H) ⟨fun _ H' => Q .non H', Q, fun _ _ => False, fun _ _ => False⟩ [some a0, none, none, none, none, none, none, none] H := by
  unfold t_law
  obtain ⟨a, ns, rfl, hO, hS, hns, q⟩ := h
  walk_at "zz"
  intro p hp
  have S0 : StAt Z.K (upd H p (.lst [.ref a, .int 0, .int 0])) p := ⟨a, ns, 0, 0, hS.same (same_new hp), hns, by omega, by omega, upd_same⟩
  walk_at "zz"
  refine loop_range (fun i σ' H' => StAt Z.K H' p ∧ ∃ x1 x2 x3 x4 x5 x6, σ' = [some (.ref a), some (.ref p), x1, x2, x3, x4, x5, x6]) ⟨S0, _, _, _, _, _, _, rfl⟩ ?_ ?_
  · rintro i σ' H' hi ⟨S1, x1, x2, x3, x4, x5, x6, rfl⟩
    walk_at "zz"
    refine cl_Lrows ⟨p, rfl, S1, fun l xs rs H2 S2 B2 hl hlf hR hG hp0 h40 => ?_⟩
    have hlen : xs.length = rs.length := Paired.length hR
    walk_at "zz"
    intro l2 hl2
    have n2 : l ≠ l2 := ne_of_none hl hl2
    walk_at "zz"
    refine loop_range (fun j σ' H3 => Same (upd H2 l2 (.lst xs)) H3 ∧ ∃ x1 x4 x5 x6, σ' = [some (.ref a), some (.ref p), x1, some (.ref l), some (.ref l2), x4, x5, x6]) ⟨Same.refl _, _, _, _, _, rfl⟩ ?_ ?_
    · rintro j σ' H3 hj ⟨S3, y1, y4, y5, y6, rfl⟩
      have hl' : H3 l = some (.lst xs) := S3 _ _ (up_new hl2 hl)
      have hl2' : H3 l2 = some (.lst xs) := S3 _ _ upd_same
      have hR3 : RowsAt H3 xs rs := (hR.mono (TupS.new hl2)).mono (TupS.of S3)
      walk_at "zz"
      refine cl_meant ⟨l2, xs, rs, 0 + (j : Int), rfl, rfl, hl2', hR3, hG, by omega, by omega, by omega, fun H4 S4 => ?_⟩
      walk_at "zz"
      refine cl_Ldue ⟨l, xs, rs, 0 + (j : Int), rfl, rfl, S4 _ _ hl', hR3.mono (TupS.of S4), hG, by omega, by omega, by omega, ?_⟩
      have hm : mean rs (0 + (j : Int)) = .non ∨ ∃ z, mean rs (0 + (j : Int)) = .int z := by
        unfold mean
        split
        · exact .inl rfl
        · exact .inr ⟨_, rfl⟩
      have hD : Dp Z.K H4 (.ref l) (.list (rs.map rowD)) := rows_dp (S4 _ _ hl') (hR3.mono (TupS.of S4))
      have hD2 : Dp Z.K H4 (.ref l2) (.list (rs.map rowD)) := rows_dp (S4 _ _ hl2') (hR3.mono (TupS.of S4))
      have hsh := (rows_sh rs).shaped (by decide)
      walk_at "zz"
      refine s_ne_v (by rcases hm with e | ⟨z, e⟩ <;> rw [e] <;> rfl) ?_
      walk_at "zz"
      refine s_ifkf (by simp) ?_
      walk_at "zz"
      refine s_isi (bb := false) (.ty "bool") (ty := (match mean rs (0 + (j : Int)) with | .non => .type "NoneType" | _ => .type "int")) ?_ ?_ ?_
      · rcases hm with e | ⟨z, e⟩ <;> rw [e]
        · exact .base .non
        · exact .base (.int z)
      · rcases hm with e | ⟨z, e⟩ <;> rw [e] <;> exact kit_ty (by decide +kernel)
      walk_at "zz"
      refine s_ne_d hD2 hD hsh hsh ?_
      walk_at "zz"
      refine s_ifkf (by rw [(rows_sh rs).refl]; rfl) ?_
      walk_at "zz"
      exact ⟨S3.trans S4, _, _, _, _, rfl⟩
    · rintro σ' H3 ⟨S3, y1, y4, y5, y6, rfl⟩
      walk_at "zz"
      exact ⟨(S2.same (same_new hl2)).same S3, _, _, _, _, _, _, rfl⟩
  · rintro σ' H' ⟨S1, x1, x2, x3, x4, x5, x6, rfl⟩
    walk_at "zz"
    exact q _

theorem sc_meant : FnScope nm_meant ["rows", "at"] (defScope st_meant) := ⟨rfl, rfl, rfl, by decide +kernel, rfl, by decide +kernel, by decide +kernel⟩
theorem ok_meant {P : Program} {w : World} {base : Heap} {Z : Adr} (T : Top Z)  : FnOk P w Z.K Z.mg base (L2.CX P w) 1 Z.f_meant Z.d_meant ["rows", "at"] (sp_meant Z) := by
  refine FnOk.mono (T.F_meant.okX (k := 0) sc_meant (fun vs H Q E h => ?_) (fun cdv A outer s H vs Q E hr h => ?_)) (by decide)
  · obtain ⟨a0, a1, rfl, _⟩ := h; rfl
  · obtain ⟨a0, a1, rfl, h⟩ := h
    have tk : Takes (cxOf (L2.CX P w) P w Z.K Z.mg base nm_meant "meant" (defScope st_meant) Z.f_meant cdv A outer s H E) (fun cls d _ H => E cls d H) := takes_of rfl rfl rfl rfl
    have po : PassesOwn (model P w) (cxOf (L2.CX P w) P w Z.K Z.mg base nm_meant "meant" (defScope st_meant) Z.f_meant cdv A outer s H E).A (cxOf (L2.CX P w) P w Z.K Z.mg base nm_meant "meant" (defScope st_meant) Z.f_meant cdv A outer s H E).env (cxOf (L2.CX P w) P w Z.K Z.mg base nm_meant "meant" (defScope st_meant) Z.f_meant cdv A outer s H E).xe := passes_of rfl
    refine ⟨t_meant Z (fun cls d _ H => E cls d H), ?_, rd_meant T h⟩
    exact (pss_cons (ps_set (i := 2) sc_meant.nd rfl (Or.inl rfl) pe_dnewK)
      (pss_cons (ps_while po (PW.pt (pw_and (pt_cmpR op_lt (pv 1) (pe_callB call_len' (by rfl) T.n_len (by decide +kernel) (pa_cons (pv 0) pa_nil)) (nomark _)) (pw_and1 (pt_cmpR (op_eqU (hr.units)) (pe_ix ix_seq (pe_ix ix_seq (pv 0) (pv 1) (fun _ _ => rfl)) pe_int (fun _ _ => rfl)) (pe_glob rfl T.g_OP_JUMP ⟨_, rfl⟩) (nomark _))))) (pss_cons (ps_if (pt_cmp (pc_din (hu_of hr) (pv 1) (pv 2))) (pss_one (ps_ret pe_non)) pss_nil)
      (pss_cons (ps_dput (hu_of hr) (pv 2) (pv 1) pe_bl rfl)
      (pss_one (ps_set (i := 1) sc_meant.nd rfl (Or.inl rfl) (pe_ix ix_seq (pe_ix ix_seq (pv 0) (pv 1) (fun _ _ => rfl)) pe_int (fun _ _ => rfl)))))))
      (pss_cons (ps_if (pt_cmpR op_ge (pv 1) (pe_callB call_len' (by rfl) T.n_len (by decide +kernel) (pa_cons (pv 0) pa_nil)) (nomark _)) (pss_one (ps_ret pe_non)) pss_nil)
      (pss_one (ps_ret (pv 1))))))

theorem sc_Lcell : FnScope nm_Lcell ["_law_script", "_law_k"] (defScope st_Lcell) := ⟨rfl, rfl, rfl, by decide +kernel, rfl, by decide +kernel, by decide +kernel⟩
theorem ok_Lcell {P : Program} {w : World} {base : Heap} {Z : Adr} (T : Top Z)  : FnOk P w Z.K Z.mg base (L2.CX P w) 1 Z.f_Lcell Z.d_Lcell ["_law_script", "_law_k"] (sp_Lcell Z) := by
  refine FnOk.mono (T.F_Lcell.okX (k := 0) sc_Lcell (fun vs H Q E h => ?_) (fun cdv A outer s H vs Q E hr h => ?_)) (by decide)
  · obtain ⟨a0, a1, rfl, _⟩ := h; rfl
  · obtain ⟨a0, a1, rfl, h⟩ := h
    have tk : Takes (cxOf (L2.CX P w) P w Z.K Z.mg base nm_Lcell "_law_cell" (defScope st_Lcell) Z.f_Lcell cdv A outer s H E) (fun cls d _ H => E cls d H) := takes_of rfl rfl rfl rfl
    have po : PassesOwn (model P w) (cxOf (L2.CX P w) P w Z.K Z.mg base nm_Lcell "_law_cell" (defScope st_Lcell) Z.f_Lcell cdv A outer s H E).A (cxOf (L2.CX P w) P w Z.K Z.mg base nm_Lcell "_law_cell" (defScope st_Lcell) Z.f_Lcell cdv A outer s H E).env (cxOf (L2.CX P w) P w Z.K Z.mg base nm_Lcell "_law_cell" (defScope st_Lcell) Z.f_Lcell cdv A outer s H E).xe := passes_of rfl
    refine ⟨t_Lcell Z (fun cls d _ H => E cls d H), ?_, rd_Lcell T h⟩
    exact (pss_cons (ps_if (pt_cmpR op_lt (pv 1) (pe_callB call_len' (by rfl) T.n_len (by decide +kernel) (pa_cons (pv 0) pa_nil)) (nomark _)) (pss_one (ps_ret (pe_ix ix_seq (pv 0) (pv 1) (fun _ _ => rfl)))) pss_nil)
      (pss_one (ps_ret pe_int)))

theorem sc_Ltake : FnScope nm_Ltake ["_law_state", "_law_most"] (defScope st_Ltake) := ⟨rfl, rfl, rfl, by decide +kernel, rfl, by decide +kernel, by decide +kernel⟩
theorem ok_Ltake {P : Program} {w : World} {base : Heap} {Z : Adr} (T : Top Z) (G_Lcell : FnOk P w Z.K Z.mg base (L2.CX P w) 1 Z.f_Lcell Z.d_Lcell ["_law_script", "_law_k"] (sp_Lcell Z)) : FnOk P w Z.K Z.mg base (L2.CX P w) 2 Z.f_Ltake Z.d_Ltake ["_law_state", "_law_most"] (sp_Ltake Z) := by
  refine FnOk.mono (T.F_Ltake.okX (k := 1) sc_Ltake (fun vs H Q E h => ?_) (fun cdv A outer s H vs Q E hr h => ?_)) (by decide)
  · obtain ⟨a0, a1, rfl, _⟩ := h; rfl
  · obtain ⟨a0, a1, rfl, h⟩ := h
    have tk : Takes (cxOf (L2.CX P w) P w Z.K Z.mg base nm_Ltake "_law_take" (defScope st_Ltake) Z.f_Ltake cdv A outer s H E) (fun cls d _ H => E cls d H) := takes_of rfl rfl rfl rfl
    have po : PassesOwn (model P w) (cxOf (L2.CX P w) P w Z.K Z.mg base nm_Ltake "_law_take" (defScope st_Ltake) Z.f_Ltake cdv A outer s H E).A (cxOf (L2.CX P w) P w Z.K Z.mg base nm_Ltake "_law_take" (defScope st_Ltake) Z.f_Ltake cdv A outer s H E).env (cxOf (L2.CX P w) P w Z.K Z.mg base nm_Ltake "_law_take" (defScope st_Ltake) Z.f_Ltake cdv A outer s H E).xe := passes_of rfl
    refine ⟨t_Ltake Z (fun cls d _ H => E cls d H), ?_, rd_Ltake T h⟩
    exact (pss_cons (ps_asg (pv 0) (pg_un rfl (pgs_cons (pg_name (i := 2) sc_Ltake.nd rfl (Or.inl rfl)) (pgs_cons (pg_name (i := 3) sc_Ltake.nd rfl (Or.inl rfl)) (pgs_cons (pg_name (i := 4) sc_Ltake.nd rfl (Or.inl rfl)) pgs_nil)))))
      (pss_cons (ps_if (pt_cmpR (op_eqU (hr.units)) (pv 4) pe_int (nomark _)) (pss_cons (ps_set (i := 5) sc_Ltake.nd rfl (Or.inl rfl) (pe_callS G_Lcell (hr.mono (by decide)) rfl T.m_Lcell T.k_Lcell T.b_Lcell (fun σ => passAt tk σ) (pa_cons (pv 2) (pa_cons (pe_op op_md (pv 3) pe_int) pa_nil))))
      (pss_cons (ps_asg (pe_op op_addU (pv 3) pe_int) (pg_sub (pv 0) pe_int set_list))
      (pss_one (ps_if (PW.pt (pw_and (pt_cmpR op_lt (pv 3) (pe_callB call_len' (by rfl) T.n_len (by decide +kernel) (pa_cons (pv 2) pa_nil)) (nomark _)) (pw_and1 (pt_cmpR op_ge (pv 5) (pe_op op_pow pe_int pe_int) (nomark _))))) (pss_one (ps_set (i := 4) sc_Ltake.nd rfl (Or.inl rfl) (pv 5))) (pss_cons (ps_set (i := 6) sc_Ltake.nd rfl (Or.inl rfl) (pe_op op_md (pe_op op_ml (pe_op op_addU (pe_op op_addU (pe_op op_md (pv 5) pe_int) (pe_op op_ml pe_int (pv 3))) pe_int) pe_int) pe_int))
      (pss_cons (ps_set (i := 6) sc_Ltake.nd rfl (Or.inl rfl) (pe_op op_md (pe_op op_addU (pe_op op_addU (pe_op op_ml (pv 6) (pv 6)) (pe_op op_ml pe_int (pv 6))) (pv 3)) pe_int))
      (pss_one (ps_ret (pe_op op_md (pe_op op_fdv (pv 6) pe_int) (pv 1)))))))))) pss_nil)
      (pss_cons (ps_asg (pe_op op_fdv (pv 4) (pv 1)) (pg_sub (pv 0) pe_int set_list))
      (pss_one (ps_ret (pe_op op_md (pv 4) (pv 1)))))))

theorem sc_Lrows : FnScope nm_Lrows ["_law_state"] (defScope st_Lrows) := ⟨rfl, rfl, rfl, by decide +kernel, rfl, by decide +kernel, by decide +kernel⟩
theorem ok_Lrows {P : Program} {w : World} {base : Heap} {Z : Adr} (T : Top Z) (G_Ltake : FnOk P w Z.K Z.mg base (L2.CX P w) 2 Z.f_Ltake Z.d_Ltake ["_law_state", "_law_most"] (sp_Ltake Z)) : FnOk P w Z.K Z.mg base (L2.CX P w) 3 Z.f_Lrows Z.d_Lrows ["_law_state"] (sp_Lrows Z) := by
  refine FnOk.mono (T.F_Lrows.okX (k := 2) sc_Lrows (fun vs H Q E h => ?_) (fun cdv A outer s H vs Q E hr h => ?_)) (by decide)
  · obtain ⟨a0, rfl, _⟩ := h; rfl
  · obtain ⟨a0, rfl, h⟩ := h
    have tk : Takes (cxOf (L2.CX P w) P w Z.K Z.mg base nm_Lrows "_law_rows" (defScope st_Lrows) Z.f_Lrows cdv A outer s H E) (fun cls d _ H => E cls d H) := takes_of rfl rfl rfl rfl
    have po : PassesOwn (model P w) (cxOf (L2.CX P w) P w Z.K Z.mg base nm_Lrows "_law_rows" (defScope st_Lrows) Z.f_Lrows cdv A outer s H E).A (cxOf (L2.CX P w) P w Z.K Z.mg base nm_Lrows "_law_rows" (defScope st_Lrows) Z.f_Lrows cdv A outer s H E).env (cxOf (L2.CX P w) P w Z.K Z.mg base nm_Lrows "_law_rows" (defScope st_Lrows) Z.f_Lrows cdv A outer s H E).xe := passes_of rfl
    refine ⟨t_Lrows Z (fun cls d _ H => E cls d H), ?_, rd_Lrows T h⟩
    exact (pss_cons (ps_set (i := 1) sc_Lrows.nd rfl (Or.inl rfl) (pe_op op_addU pe_int (pe_callS G_Ltake (hr.mono (by decide)) rfl T.m_Ltake T.k_Ltake T.b_Ltake (fun σ => passAt tk σ) (pa_cons (pv 0) (pa_cons (pe_ix ix_seq (pe_lst (pa_cons pe_int (pa_cons pe_int pa_nil))) (pe_callS G_Ltake (hr.mono (by decide)) rfl T.m_Ltake T.k_Ltake T.b_Ltake (fun σ => passAt tk σ) (pa_cons (pv 0) (pa_cons pe_int pa_nil))) (fun _ _ => rfl)) pa_nil)))))
      (pss_cons (ps_set (i := 2) sc_Lrows.nd rfl (Or.inl rfl) (pe_op op_addU pe_int (pe_callS G_Ltake (hr.mono (by decide)) rfl T.m_Ltake T.k_Ltake T.b_Ltake (fun σ => passAt tk σ) (pa_cons (pv 0) (pa_cons pe_int pa_nil)))))
      (pss_cons (ps_set (i := 3) sc_Lrows.nd rfl (Or.inl rfl) (pe_lst pa_nil))
      (pss_cons (ps_for po rfl (pi_range1 rfl T.n_range (pa_cons (pv 1) pa_nil)) (pg_name (i := 4) sc_Lrows.nd rfl (Or.inl rfl)) (pss_cons (ps_set (i := 5) sc_Lrows.nd rfl (Or.inl rfl) (pe_callS G_Ltake (hr.mono (by decide)) rfl T.m_Ltake T.k_Ltake T.b_Ltake (fun σ => passAt tk σ) (pa_cons (pv 0) (pa_cons pe_int pa_nil))))
      (pss_cons (ps_set (i := 6) sc_Lrows.nd rfl (Or.inl rfl) (pe_lst (pa_cons (pe_callS G_Ltake (hr.mono (by decide)) rfl T.m_Ltake T.k_Ltake T.b_Ltake (fun σ => passAt tk σ) (pa_cons (pv 0) (pa_cons (pv 1) pa_nil))) (pa_cons (pe_callB (call_min' rfl) (by rfl) T.n_min (by decide +kernel) (pa_cons (pe_op op_sub (pv 1) pe_int) (pa_cons (pe_op op_addU (pv 4) pe_int) pa_nil))) (pa_cons (pe_callB (call_max' rfl) (by rfl) T.n_max (by decide +kernel) (pa_cons pe_int (pa_cons (pe_op op_sub (pv 4) pe_int) pa_nil))) (pa_cons (pv 4) (pa_cons (pe_callS G_Ltake (hr.mono (by decide)) rfl T.m_Ltake T.k_Ltake T.b_Ltake (fun σ => passAt tk σ) (pa_cons (pv 0) (pa_cons (pv 1) pa_nil))) pa_nil)))))))
      (pss_cons (ps_set (i := 7) sc_Lrows.nd rfl (Or.inl rfl) (pe_ix ix_seq (pv 6) (pe_callS G_Ltake (hr.mono (by decide)) rfl T.m_Ltake T.k_Ltake T.b_Ltake (fun σ => passAt tk σ) (pa_cons (pv 0) (pa_cons pe_int pa_nil))) (fun _ _ => rfl)))
      (pss_one (ps_if (pt_cmpR op_lt (pv 5) (pv 2) (nomark _)) (pss_one (ps_expr (pe_bm PySem.F.plainAttrs_list PySem.F.slot_list_append PySem.F.type_list_append mt_append (pv 3) (pa_cons (pe_tup (pa_cons pe_int (pa_cons (pv 7) pa_nil))) pa_nil)))) (pss_one (ps_expr (pe_bm PySem.F.plainAttrs_list PySem.F.slot_list_append PySem.F.type_list_append mt_append (pv 3) (pa_cons (pe_ix ix_seq (pe_lst (pa_cons (pe_tup (pa_cons pe_int (pa_cons pe_int pa_nil))) (pa_cons (pe_tup (pa_cons pe_int (pa_cons (pv 7) pa_nil))) (pa_cons (pe_tup (pa_cons pe_int (pa_cons pe_int pa_nil))) (pa_cons (pe_tup (pa_cons pe_int (pa_cons pe_int pa_nil))) (pa_cons (pe_tup (pa_cons pe_int (pa_cons pe_int pa_nil))) pa_nil)))))) (pe_callS G_Ltake (hr.mono (by decide)) rfl T.m_Ltake T.k_Ltake T.b_Ltake (fun σ => passAt tk σ) (pa_cons (pv 0) (pa_cons pe_int pa_nil))) (fun _ _ => rfl)) pa_nil))))))))))
      (pss_one (ps_ret (pv 3)))))))

theorem sc_Ldue : FnScope nm_Ldue ["_law_rows_here", "_law_at"] (defScope st_Ldue) := ⟨rfl, rfl, rfl, by decide +kernel, rfl, by decide +kernel, by decide +kernel⟩
theorem ok_Ldue {P : Program} {w : World} {base : Heap} {Z : Adr} (T : Top Z)  : FnOk P w Z.K Z.mg base (L2.CX P w) 1 Z.f_Ldue Z.d_Ldue ["_law_rows_here", "_law_at"] (sp_Ldue Z) := by
  refine FnOk.mono (T.F_Ldue.okX (k := 0) sc_Ldue (fun vs H Q E h => ?_) (fun cdv A outer s H vs Q E hr h => ?_)) (by decide)
  · obtain ⟨a0, a1, rfl, _⟩ := h; rfl
  · obtain ⟨a0, a1, rfl, h⟩ := h
    have tk : Takes (cxOf (L2.CX P w) P w Z.K Z.mg base nm_Ldue "_law_due" (defScope st_Ldue) Z.f_Ldue cdv A outer s H E) (fun cls d _ H => E cls d H) := takes_of rfl rfl rfl rfl
    have po : PassesOwn (model P w) (cxOf (L2.CX P w) P w Z.K Z.mg base nm_Ldue "_law_due" (defScope st_Ldue) Z.f_Ldue cdv A outer s H E).A (cxOf (L2.CX P w) P w Z.K Z.mg base nm_Ldue "_law_due" (defScope st_Ldue) Z.f_Ldue cdv A outer s H E).env (cxOf (L2.CX P w) P w Z.K Z.mg base nm_Ldue "_law_due" (defScope st_Ldue) Z.f_Ldue cdv A outer s H E).xe := passes_of rfl
    refine ⟨t_Ldue Z (fun cls d _ H => E cls d H), ?_, rd_Ldue T h⟩
    exact (pss_cons (ps_for po rfl (pi_range1 rfl T.n_range (pa_cons (pe_callB call_len' (by rfl) T.n_len (by decide +kernel) (pa_cons (pv 0) pa_nil)) pa_nil)) (pg_name (i := 2) sc_Ldue.nd rfl (Or.inl rfl)) (pss_one (ps_if (PW.pt (pw_and (pt_cmpR op_lt (pv 1) (pe_callB call_len' (by rfl) T.n_len (by decide +kernel) (pa_cons (pv 0) pa_nil)) (nomark _)) (pw_and1 (pt_cmpR (op_eqU (hr.units)) (pe_ix ix_seq (pe_ix ix_seq (pv 0) (pv 1) (fun _ _ => rfl)) pe_int (fun _ _ => rfl)) pe_int (nomark _))))) (pss_one (ps_set (i := 1) sc_Ldue.nd rfl (Or.inl rfl) (pe_ix ix_seq (pe_ix ix_seq (pv 0) (pv 1) (fun _ _ => rfl)) pe_int (fun _ _ => rfl)))) pss_nil)))
      (pss_cons (ps_if (PW.pt (pw_or (pt_cmpR (op_eqU (hr.units)) (pv 1) (pe_callB call_len' (by rfl) T.n_len (by decide +kernel) (pa_cons (pv 0) pa_nil)) (nomark _)) (pw_or1 (pt_cmpR (op_eqU (hr.units)) (pe_ix ix_seq (pe_ix ix_seq (pv 0) (pv 1) (fun _ _ => rfl)) pe_int (fun _ _ => rfl)) pe_int (nomark _))))) (pss_one (ps_ret pe_non)) pss_nil)
      (pss_one (ps_ret (pv 1)))))

theorem sc_law : FnScope nm_law ["_law_script"] (defScope st_law) := ⟨rfl, rfl, rfl, by decide +kernel, rfl, by decide +kernel, by decide +kernel⟩
theorem ok_law {P : Program} {w : World} {base : Heap} {Z : Adr} (T : Top Z) (G_Lrows : FnOk P w Z.K Z.mg base (L2.CX P w) 3 Z.f_Lrows Z.d_Lrows ["_law_state"] (sp_Lrows Z)) (G_meant : FnOk P w Z.K Z.mg base (L2.CX P w) 1 Z.f_meant Z.d_meant ["rows", "at"] (sp_meant Z)) (G_Ldue : FnOk P w Z.K Z.mg base (L2.CX P w) 1 Z.f_Ldue Z.d_Ldue ["_law_rows_here", "_law_at"] (sp_Ldue Z)) : FnOk P w Z.K Z.mg base (L2.CX P w) 4 Z.f_law Z.d_law ["_law_script"] (sp_law Z) := by
  refine FnOk.mono (T.F_law.okX (k := 3) sc_law (fun vs H Q E h => ?_) (fun cdv A outer s H vs Q E hr h => ?_)) (by decide)
  · obtain ⟨a0, rfl, _⟩ := h; rfl
  · obtain ⟨a0, rfl, h⟩ := h
    have tk : Takes (cxOf (L2.CX P w) P w Z.K Z.mg base nm_law "law" (defScope st_law) Z.f_law cdv A outer s H E) (fun cls d _ H => E cls d H) := takes_of rfl rfl rfl rfl
    have po : PassesOwn (model P w) (cxOf (L2.CX P w) P w Z.K Z.mg base nm_law "law" (defScope st_law) Z.f_law cdv A outer s H E).A (cxOf (L2.CX P w) P w Z.K Z.mg base nm_law "law" (defScope st_law) Z.f_law cdv A outer s H E).env (cxOf (L2.CX P w) P w Z.K Z.mg base nm_law "law" (defScope st_law) Z.f_law cdv A outer s H E).xe := passes_of rfl
    refine ⟨t_law Z (fun cls d _ H => E cls d H), ?_, rd_law T h⟩
    exact (pss_cons (ps_set (i := 1) sc_law.nd rfl (Or.inl rfl) (pe_lst (pa_cons (pv 0) (pa_cons pe_int (pa_cons pe_int pa_nil)))))
      (pss_cons (ps_for po rfl (pi_range1 rfl T.n_range (pa_cons pe_int pa_nil)) (pg_name (i := 2) sc_law.nd rfl (Or.inl rfl)) (pss_cons (ps_set (i := 3) sc_law.nd rfl (Or.inl rfl) (pe_callS G_Lrows (hr.mono (by decide)) rfl T.m_Lrows T.k_Lrows T.b_Lrows (fun σ => passAt tk σ) (pa_cons (pv 1) pa_nil)))
      (pss_cons (ps_set (i := 4) sc_law.nd rfl (Or.inl rfl) (pe_callTy call_list' (by rfl) T.n_list (by decide +kernel) (pa_cons (pv 3) pa_nil)))
      (pss_one (ps_for po rfl (pi_range1 rfl T.n_range (pa_cons (pe_op op_addU (pe_callB call_len' (by rfl) T.n_len (by decide +kernel) (pa_cons (pv 3) pa_nil)) pe_int) pa_nil)) (pg_name (i := 5) sc_law.nd rfl (Or.inl rfl)) (pss_cons (ps_set (i := 6) sc_law.nd rfl (Or.inl rfl) (pe_callS G_meant (hr.mono (by decide)) rfl T.m_meant T.k_meant T.b_meant (fun σ => passAt tk σ) (pa_cons (pv 4) (pa_cons (pv 5) pa_nil))))
      (pss_cons (ps_set (i := 7) sc_law.nd rfl (Or.inl rfl) (pe_callS G_Ldue (hr.mono (by decide)) rfl T.m_Ldue T.k_Ldue T.b_Ldue (fun σ => passAt tk σ) (pa_cons (pv 3) (pa_cons (pv 5) pa_nil))))
      (pss_one (ps_if (PW.pt (pw_or (pt_cmpR (op_neU (hr.units)) (pv 6) (pv 7) (nomark _)) (pw_or (pt_val (pe_callB call_isi' (by rfl) T.n_isinstance (by decide +kernel) (pa_cons (pv 6) (pa_cons (pe_bltn (by rfl) T.n_bool (by decide +kernel) rfl) pa_nil)))) (pw_or1 (pt_cmpR (op_neU (hr.units)) (pv 4) (pv 3) (nomark _)))))) (pss_one (ps_ret pe_bl)) pss_nil)))))))))
      (pss_one (ps_ret pe_bl))))
def sp_goal (K : PySem.W.Frag) : Sp := fun vs H Q _ => ∃ (a : Addr) (ns : List Int), vs = [.ref a] ∧ Only H ∧ Scr K H a ns ∧ ns.length ≤ 63 ∧ ∀ H', Q (.bl true) H'
theorem goal_law (Z : Adr) {vs : List V} {H : Hp} {Q : VK} {E : XK} (h : sp_goal Z.K vs H Q E) : sp_law Z vs H Q E := by
  obtain ⟨a, ns, rfl, h⟩ := h
  exact ⟨_, rfl, a, ns, rfl, h⟩
/-! ### the top, and the law's own head -/
theorem all_mk {l : PySem.W.OpenLaw} {w : World} {K : PySem.W.Frag} {h : Heap} {mg : Str → Option Value} {fa : Addr} (X : K.In h) (G : h.Ns mainGlobals mg) (hfa : mg "law" = some (.ref fa))
    {tk_OP_JUMP : Tok}
    {oc_meant kV_meant dc_meant pm_meant cd_meant ct_meant : Value} {od_meant an_meant : Option Addr} {sl_meant : Array (Option Value)} {f_meant : Addr}
    {oc_Lcell kV_Lcell dc_Lcell pm_Lcell cd_Lcell ct_Lcell : Value} {od_Lcell an_Lcell : Option Addr} {sl_Lcell : Array (Option Value)} {f_Lcell : Addr}
    {oc_Ltake kV_Ltake dc_Ltake pm_Ltake cd_Ltake ct_Ltake : Value} {od_Ltake an_Ltake : Option Addr} {sl_Ltake : Array (Option Value)} {f_Ltake : Addr}
    {oc_Lrows kV_Lrows dc_Lrows pm_Lrows cd_Lrows ct_Lrows : Value} {od_Lrows an_Lrows : Option Addr} {sl_Lrows : Array (Option Value)} {f_Lrows : Addr}
    {oc_Ldue kV_Ldue dc_Ldue pm_Ldue cd_Ldue ct_Ldue : Value} {od_Ldue an_Ldue : Option Addr} {sl_Ldue : Array (Option Value)} {f_Ldue : Addr}
    {oc_law kV_law dc_law pm_law cd_law ct_law : Value} {od_law an_law : Option Addr} {sl_law : Array (Option Value)} {f_law : Addr}
    (i_OP_JUMP : PySem.W.nsIn K mainGlobals "OP_JUMP" = some (some (.int 4 tk_OP_JUMP)))
    (z_bool : PySem.W.nsIn K mainGlobals "bool" = some none)
    (z_isinstance : PySem.W.nsIn K mainGlobals "isinstance" = some none)
    (z_len : PySem.W.nsIn K mainGlobals "len" = some none)
    (z_list : PySem.W.nsIn K mainGlobals "list" = some none)
    (z_max : PySem.W.nsIn K mainGlobals "max" = some none)
    (z_min : PySem.W.nsIn K mainGlobals "min" = some none)
    (z_range : PySem.W.nsIn K mainGlobals "range" = some none)
    (a_meant : PySem.W.nsIn K mainGlobals "meant" = some (some (.ref f_meant)))
    (l_meant : K.lookup f_meant = some ⟨oc_meant, od_meant, .func (PySem.W.fnOf "meant" "meant" (defArgs st_meant) (defBody st_meant) (defScope st_meant) .none kV_meant dc_meant pm_meant an_meant cd_meant ct_meant), sl_meant⟩)
    (c_meant : PySem.W.codeIn K cd_meant "meant" = true)
    (k_meant : PySem.W.keepIn K (.ref f_meant) = true)
    (a_Lcell : PySem.W.nsIn K mainGlobals "_law_cell" = some (some (.ref f_Lcell)))
    (l_Lcell : K.lookup f_Lcell = some ⟨oc_Lcell, od_Lcell, .func (PySem.W.fnOf "_law_cell" "_law_cell" (defArgs st_Lcell) (defBody st_Lcell) (defScope st_Lcell) .none kV_Lcell dc_Lcell pm_Lcell an_Lcell cd_Lcell ct_Lcell), sl_Lcell⟩)
    (c_Lcell : PySem.W.codeIn K cd_Lcell "_law_cell" = true)
    (k_Lcell : PySem.W.keepIn K (.ref f_Lcell) = true)
    (a_Ltake : PySem.W.nsIn K mainGlobals "_law_take" = some (some (.ref f_Ltake)))
    (l_Ltake : K.lookup f_Ltake = some ⟨oc_Ltake, od_Ltake, .func (PySem.W.fnOf "_law_take" "_law_take" (defArgs st_Ltake) (defBody st_Ltake) (defScope st_Ltake) .none kV_Ltake dc_Ltake pm_Ltake an_Ltake cd_Ltake ct_Ltake), sl_Ltake⟩)
    (c_Ltake : PySem.W.codeIn K cd_Ltake "_law_take" = true)
    (k_Ltake : PySem.W.keepIn K (.ref f_Ltake) = true)
    (a_Lrows : PySem.W.nsIn K mainGlobals "_law_rows" = some (some (.ref f_Lrows)))
    (l_Lrows : K.lookup f_Lrows = some ⟨oc_Lrows, od_Lrows, .func (PySem.W.fnOf "_law_rows" "_law_rows" (defArgs st_Lrows) (defBody st_Lrows) (defScope st_Lrows) .none kV_Lrows dc_Lrows pm_Lrows an_Lrows cd_Lrows ct_Lrows), sl_Lrows⟩)
    (c_Lrows : PySem.W.codeIn K cd_Lrows "_law_rows" = true)
    (k_Lrows : PySem.W.keepIn K (.ref f_Lrows) = true)
    (a_Ldue : PySem.W.nsIn K mainGlobals "_law_due" = some (some (.ref f_Ldue)))
    (l_Ldue : K.lookup f_Ldue = some ⟨oc_Ldue, od_Ldue, .func (PySem.W.fnOf "_law_due" "_law_due" (defArgs st_Ldue) (defBody st_Ldue) (defScope st_Ldue) .none kV_Ldue dc_Ldue pm_Ldue an_Ldue cd_Ldue ct_Ldue), sl_Ldue⟩)
    (c_Ldue : PySem.W.codeIn K cd_Ldue "_law_due" = true)
    (k_Ldue : PySem.W.keepIn K (.ref f_Ldue) = true)
    (a_law : PySem.W.nsIn K mainGlobals "law" = some (some (.ref f_law)))
    (l_law : K.lookup f_law = some ⟨oc_law, od_law, .func (PySem.W.fnOf "law" "law" (defArgs st_law) (defBody st_law) (defScope st_law) .none kV_law dc_law pm_law an_law cd_law ct_law), sl_law⟩)
    (c_law : PySem.W.codeIn K cd_law "law" = true)
    (k_law : PySem.W.keepIn K (.ref f_law) = true) :
    ∃ fd : FuncData, (∀ (s : Shared) (v : Value), BindsTo s fd ⟨[v], []⟩ [("_law_script", v)]) ∧ ∀ base : Heap, K.In base → base.Ns mainGlobals mg → ∃ Z : Adr, Z.K = K ∧ FnOk l.prog w K mg base (L2.CX l.prog w) 4 fa fd ["_law_script"] (sp_law Z) := by
  have e := hfa.symm.trans (PySem.W.mg_of X G a_law)
  cases e
  let Z : Adr := {
      K := K
      mg := mg
      t_OP_JUMP := tk_OP_JUMP
      f_meant := f_meant
      d_meant := PySem.W.fnOf "meant" "meant" (defArgs st_meant) (defBody st_meant) (defScope st_meant) .none kV_meant dc_meant pm_meant an_meant cd_meant ct_meant
      f_Lcell := f_Lcell
      d_Lcell := PySem.W.fnOf "_law_cell" "_law_cell" (defArgs st_Lcell) (defBody st_Lcell) (defScope st_Lcell) .none kV_Lcell dc_Lcell pm_Lcell an_Lcell cd_Lcell ct_Lcell
      f_Ltake := f_Ltake
      d_Ltake := PySem.W.fnOf "_law_take" "_law_take" (defArgs st_Ltake) (defBody st_Ltake) (defScope st_Ltake) .none kV_Ltake dc_Ltake pm_Ltake an_Ltake cd_Ltake ct_Ltake
      f_Lrows := f_Lrows
      d_Lrows := PySem.W.fnOf "_law_rows" "_law_rows" (defArgs st_Lrows) (defBody st_Lrows) (defScope st_Lrows) .none kV_Lrows dc_Lrows pm_Lrows an_Lrows cd_Lrows ct_Lrows
      f_Ldue := f_Ldue
      d_Ldue := PySem.W.fnOf "_law_due" "_law_due" (defArgs st_Ldue) (defBody st_Ldue) (defScope st_Ldue) .none kV_Ldue dc_Ldue pm_Ldue an_Ldue cd_Ldue ct_Ldue
      f_law := fa
      d_law := PySem.W.fnOf "law" "law" (defArgs st_law) (defBody st_law) (defScope st_law) .none kV_law dc_law pm_law an_law cd_law ct_law }
  have T : Top Z := {
      g_OP_JUMP := PySem.W.mg_of X G i_OP_JUMP
      n_bool := PySem.W.mg_none_of X G z_bool
      n_isinstance := PySem.W.mg_none_of X G z_isinstance
      n_len := PySem.W.mg_none_of X G z_len
      n_list := PySem.W.mg_none_of X G z_list
      n_max := PySem.W.mg_none_of X G z_max
      n_min := PySem.W.mg_none_of X G z_min
      n_range := PySem.W.mg_none_of X G z_range
      m_meant := PySem.W.mg_of X G a_meant
      F_meant := fun_mk (st := st_meant) l_meant c_meant k_meant
      b_meant := (fun_mk (st := st_meant) l_meant c_meant k_meant).binds (ps := ["rows", "at"]) fun _ _ _ _ _ _ us hl => match us, hl with | [_, _], _ => rfl
      m_Lcell := PySem.W.mg_of X G a_Lcell
      F_Lcell := fun_mk (st := st_Lcell) l_Lcell c_Lcell k_Lcell
      b_Lcell := (fun_mk (st := st_Lcell) l_Lcell c_Lcell k_Lcell).binds (ps := ["_law_script", "_law_k"]) fun _ _ _ _ _ _ us hl => match us, hl with | [_, _], _ => rfl
      m_Ltake := PySem.W.mg_of X G a_Ltake
      F_Ltake := fun_mk (st := st_Ltake) l_Ltake c_Ltake k_Ltake
      b_Ltake := (fun_mk (st := st_Ltake) l_Ltake c_Ltake k_Ltake).binds (ps := ["_law_state", "_law_most"]) fun _ _ _ _ _ _ us hl => match us, hl with | [_, _], _ => rfl
      m_Lrows := PySem.W.mg_of X G a_Lrows
      F_Lrows := fun_mk (st := st_Lrows) l_Lrows c_Lrows k_Lrows
      b_Lrows := (fun_mk (st := st_Lrows) l_Lrows c_Lrows k_Lrows).binds (ps := ["_law_state"]) fun _ _ _ _ _ _ us hl => match us, hl with | [_], _ => rfl
      m_Ldue := PySem.W.mg_of X G a_Ldue
      F_Ldue := fun_mk (st := st_Ldue) l_Ldue c_Ldue k_Ldue
      b_Ldue := (fun_mk (st := st_Ldue) l_Ldue c_Ldue k_Ldue).binds (ps := ["_law_rows_here", "_law_at"]) fun _ _ _ _ _ _ us hl => match us, hl with | [_, _], _ => rfl
      m_law := PySem.W.mg_of X G a_law
      F_law := fun_mk (st := st_law) l_law c_law k_law
      b_law := (fun_mk (st := st_law) l_law c_law k_law).binds (ps := ["_law_script"]) fun _ _ _ _ _ _ us hl => match us, hl with | [_], _ => rfl }
  refine ⟨Z.d_law, fun s v => .of_eq rfl, fun base _ _ => ⟨Z, rfl, ?_⟩⟩
  have G_Lcell := ok_Lcell (P := l.prog) (w := w) (base := base) T 
  have G_Ltake := ok_Ltake (P := l.prog) (w := w) (base := base) T G_Lcell
  have G_Lrows := ok_Lrows (P := l.prog) (w := w) (base := base) T G_Ltake
  have G_meant := ok_meant (P := l.prog) (w := w) (base := base) T 
  have G_Ldue := ok_Ldue (P := l.prog) (w := w) (base := base) T 
  have G_law := ok_law (P := l.prog) (w := w) (base := base) T G_Lrows G_meant G_Ldue
  exact G_law
theorem walk {l : PySem.W.OpenLaw} {q : Program} {loose : List Str} {XP : (Str → Option Value) → Heap → Prop} {YP : World → Heap → Prop} {d : DefRec} {K : Params → PySem.W.Frag} (hn : l.most = some 63) (hdf : d.params.defaults = [])
    (hY : ∀ (w : World) (h : Heap), YP w h → (K w.params).In h)
    (F : ∀ (w : World) (mg : Str → Option Value) (fa : Addr) (h : Heap), (K w.params).In h → h.Ns mainGlobals mg → mg d.name = some (.ref fa) →
      ∃ fd : FuncData, (∀ (s : Shared) (u : Value), BindsTo s fd ⟨[u], []⟩ [("_law_script", u)]) ∧ ∀ base : Heap, (K w.params).In base → base.Ns mainGlobals mg → ∃ Z : Adr, Z.K = K w.params ∧ FnOk l.prog w (K w.params) mg base (L2.CX l.prog w) 4 fa fd ["_law_script"] (sp_law Z)) :
    PySem.W.WalkO q loose XP YP l.row.toRowW d [] (fun f vs => PySem.call f vs) :=
  L2.walk_of (n := 63) (k := 4) (x := "_law_script") (CX := fun w => L2.CX l.prog w) (sp := fun w => sp_goal (K w.params)) hn (by decide) hdf ⟨rfl, by decide, by decide⟩ hY
    (fun w mg fa h a b c => by
      obtain ⟨fd, hb, z⟩ := F w mg fa h a b c
      refine ⟨fd, hb, fun base e f => ?_⟩
      obtain ⟨Z, hZ, g⟩ := z base e f
      exact g.imp fun vs H Q E q => goal_law Z (hZ ▸ q))
    (fun w H a ns hl hO hS => ⟨a, ns, rfl, hO, Scr.of hO hS, hl, fun _ => rfl⟩) fun w H s e s' z => by
      obtain ⟨_, _, _, _, _, _, _, _, _, _, _, _, z⟩ := z
      exact z.elim
end My
open PySem PySem.W PyProof.Rows
set_option maxRecDepth 100000 in
set_option maxHeartbeats 0 in
theorem PySem.Challenge.cw_ownchain_k33_rows_meant_holds : PySem.Challenge.rw_ownchain_k33_rows_meant.Holds := by
  w_on; o_law; k_head; (case hw => w_witness2)
  k_fill
  refine My.walk (l := PySem.Challenge.rw_ownchain_k33_rows_meant) rfl rfl (fun w h Y => PySem.W.kIn_of Y) ?F
  case F =>
    intro w mg fa h KX G hmg
    refine' My.all_mk KX G hmg ?i_OP_JUMP ?z_bool ?z_isinstance ?z_len ?z_list ?z_max ?z_min ?z_range ?a_meant ?l_meant ?c_meant ?k_meant ?a_Lcell ?l_Lcell ?c_Lcell ?k_Lcell ?a_Ltake ?l_Ltake ?c_Ltake ?k_Ltake ?a_Lrows ?l_Lrows ?c_Lrows ?k_Lrows ?a_Ldue ?l_Ldue ?c_Ldue ?k_Ldue ?a_law ?l_law ?c_law ?k_law
    (case i_OP_JUMP => k_is)
    (case z_bool => k_is)
    (case z_isinstance => k_is)
    (case z_len => k_is)
    (case z_list => k_is)
    (case z_max => k_is)
    (case z_min => k_is)
    (case z_range => k_is)
    (case a_meant => k_is)
    (case l_meant => k_is)
    (case c_meant => k_is)
    (case k_meant => k_is)
    (case a_Lcell => k_is)
    (case l_Lcell => k_is)
    (case c_Lcell => k_is)
    (case k_Lcell => k_is)
    (case a_Ltake => k_is)
    (case l_Ltake => k_is)
    (case c_Ltake => k_is)
    (case k_Ltake => k_is)
    (case a_Lrows => k_is)
    (case l_Lrows => k_is)
    (case c_Lrows => k_is)
    (case k_Lrows => k_is)
    (case a_Ldue => k_is)
    (case l_Ldue => k_is)
    (case c_Ldue => k_is)
    (case k_Ldue => k_is)
    (case a_law => k_is)
    (case l_law => k_is)
    (case c_law => k_is)
    (case k_law => k_is)
