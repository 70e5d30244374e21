import PyProof.Rows.All
import Wide.All
import OpenK.AllK
import Wide.FinOn
import HandS.ForMost
import HandS.ForExc
import HandS.IsInst
import HandS.Wide
import HandS.TryOnly
import HandS.Codes
import PySem.Challenge.RW_ownchain_k34_values_that_are_fixed
set_option Elab.async false
set_option linter.all false
set_option maxRecDepth 100000
set_option maxHeartbeats 8000000
set_option Elab.async false
set_option linter.all false
set_option maxRecDepth 100000
set_option maxHeartbeats 4000000
/-! Step lemmas over the hand layer's readings: each goal of a reading is turned by one lemma. -/
namespace Z
open PySem PySem.Spec PyProof.Rows L2

abbrev kS (s : Str) : Key := Sum.inr s
abbrev kI (i : Int) : Key := Sum.inl i
/-! ### universal rules: by the values -/
section
variable {X : Cx}
def rFdv : R2 := rI (fun _ j => j ≠ 0 ∧ j.natAbs.log2 < 9000) fun i j => .int (i.fdiv j)
theorem op_fdv : OpR X (binaryOp .FloorDiv) rFdv := opI fun i j _ _ _ _ _ hc q => floordiv_int hc.1 q (.inl (PyProof.noPylong_of_log2 hc.2))
def rMod : R2 := rI (fun _ j => j ≠ 0) fun i j => .int (i.fmod j)
theorem op_md : OpR X (binaryOp .Mod) rMod := op_modN
def rMul : R2 := rI (fun i j => CMul i j ∨ CMulW i j) fun i j => .int (i * j)
theorem op_ml : OpR X (binaryOp .Mult) rMul := opI fun _ _ _ _ _ _ _ hc q => mul_int q (hc.elim CMul.ok CMulW.ok)
def rAddI : R2 := rI0 fun i j => .int (i + j)
def rAddS : R2 := fun x y H Q => ∃ i j, x = .str i ∧ y = .str j ∧ i.length + j.length ≤ sizeLine ∧ Q (.str (i ++ j)) H
def rAddU (K : PySem.W.Frag) : R2 := fun x y H Q => rAddI x y H Q ∨ rAddS x y H Q ∨ rCat x y H Q ∨ rCatT K x y H Q
theorem op_addU : OpR X (binaryOp .Add) (rAddU X.K) := OpR.or op_add (OpR.or op_add_str (OpR.or op_cat op_catT))
def rEqU (K : PySem.W.Frag) : R2 := fun x y H Q => rEq x y H Q ∨ rEqD K x y H Q
theorem op_eqU (hu : X.A.units + 64 < cLine) : OpR X (compareOp .Eq) (rEqU X.K) := OpR.or op_eq (op_eqD hu)
def rNeU (K : PySem.W.Frag) : R2 := fun x y H Q => rNe x y H Q ∨ rNeD K x y H Q
theorem op_neU (hu : X.A.units + 64 < cLine) : OpR X (compareOp .NotEq) (rNeU X.K) := OpR.or op_ne (op_neD hu)
def rLen (K : PySem.W.Frag) : List V → Hp → VK → Prop := fun xs H Q => ∃ x n, xs = [x] ∧ LenV K x H n ∧ Q (.int (n : Nat)) H
theorem call_len' : CallR X (.builtin "len") (rLen X.K) := call_len
theorem pe_powc {b n z : Int} {k k' : Nat} {p p' pos : Pos} (hc : CPow b n) (h : b ^ n.toNat = z) : PE X (.BinOp (.Constant (.int b) k p) .Pow (.Constant (.int n) k' p') pos) (tC (.int z)) :=
  ⟨fun pins s σ H Q I q => (pe_op op_pow pe_int pe_int).run pins s σ H Q I ⟨b, n, rfl, rfl, hc, by show Q (.int (b ^ n.toNat)) H; rw [h]; exact q⟩⟩
def rMin2 : List V → Hp → VK → Prop := fun xs H Q => ∃ i j, xs = [.int i, .int j] ∧ Q (.int (if j < i then j else i)) H
theorem call_min' (hc : X.calm = true) : CallR X (.builtin "min") rMin2 := call_min2 hc
def rMax2 : List V → Hp → VK → Prop := fun xs H Q => ∃ i j, xs = [.int i, .int j] ∧ Q (.int (if j > i then j else i)) H
theorem call_max' (hc : X.calm = true) : CallR X (.builtin "max") rMax2 := call_max2 hc
def rListOf (K : PySem.W.Frag) : List V → Hp → VK → Prop := fun xs H Q => ∃ p ys, xs = [.ref p] ∧ (SqL K H p ys ∨ SqT K H p ys) ∧ ∀ l, H l = none → Q (.ref l) (upd H l (.lst ys))
theorem call_list' : CallR X (.type "list") (rListOf X.K) := call_list_of
def rTupOf (K : PySem.W.Frag) : List V → Hp → VK → Prop := fun xs H Q => ∃ p ys, xs = [.ref p] ∧ ((SqL K H p ys ∧ ∀ l, H l = none → Q (.ref l) (upd H l (.tup ys))) ∨ (SqT K H p ys ∧ Q (.ref p) H))
theorem call_tuple' : CallR X (.type "tuple") (rTupOf X.K) := call_tuple_of
def rInt1 : List V → Hp → VK → Prop := fun xs H Q => (∃ i, xs = [.int i] ∧ Q (.int i) H) ∨ ∃ k, xs = [.bl k] ∧ Q (.int (if k then 1 else 0)) H
theorem call_int' : CallR X (.type "int") rInt1 := call_int1
def rAbs : List V → Hp → VK → Prop := fun xs H Q => ∃ i, xs = [.int i] ∧ Q (.int (if i < 0 then -i else i)) H
theorem call_abs' : CallR X (.builtin "abs") rAbs := call_abs
def rStrI : List V → Hp → VK → Prop := fun xs H Q => ∃ i, xs = [.int i] ∧ i.natAbs.log2 < 1920 ∧ Q (.str (toString i)) H
theorem call_str' : CallR X (.type "str") rStrI := call_str_int
def rIsNz : R2 := fun x y H Q => y = .non ∧ Q (.bl (decide (x = .non))) H
theorem op_isNz : OpR X (compareOp .Is) rIsNz := op_isN
def rNotNz : R2 := fun x y H Q => y = .non ∧ Q (.bl (!decide (x = .non))) H
theorem op_notNz : OpR X (compareOp .IsNot) rNotNz := op_notN
/-- a, b = a tuple or a list -/
def gUn (K : PySem.W.Frag) (n : Nat) (t : TGs) : TG := fun v σ H Q => gTup K n t v σ H Q ∨ gLst K n t v σ H Q
theorem pg_un {pos : Pos} {es : List Expr} {k : Nat} {t : TGs} {n : Nat} (hc : X.calm = true) (h : PGs X es t)
    (hn : (assignEach es X.env).length = n := by rfl) (hst : (assignEach es X.env).findIdx? (·.1) = none := by rfl) : PG X (.Tuple es k pos) (gUn X.K n t) :=
  ⟨fun pins s σ H v u Q I r hw => hw.elim (fun z => (pg_tup hc h hn hst).run pins s σ H v u Q I r z) fun z => (pg_lst hc h hn hst).run pins s σ H v u Q I r z⟩
def rIsi2 (K : PySem.W.Frag) : List V → Hp → VK → Prop := fun xs H Q => rIsi K xs H Q ∨ rIsiT K xs H Q
theorem call_isi' : CallR X (.builtin "isinstance") (rIsi2 X.K) := fun pins s σ H vs us Q I r h => h.elim (fun z => call_isi pins s σ H vs us Q I r z) (fun z => call_isiT pins s σ H vs us Q I r z)
end

/-! ### parts of readings by name -/
def zB (x : V) (H : Hp) (Q : Bool → Hp → Prop) : Prop := ∃ k, x = .bl k ∧ Q k H
def zTup (xs : List V) (H : Hp) (Q : VK) : Prop := xs.length ≤ sizeLine ∧ ∀ p, H p = none → Q (.ref p) (upd H p (.tup xs))
def zLst (xs : List V) (H : Hp) (Q : VK) : Prop := xs.length ≤ sizeLine ∧ ∀ p, H p = none → Q (.ref p) (upd H p (.lst xs))
def zIf (k : Bool) (A B : Prop) : Prop := if k = true then A else B
def zDGet (x y : V) (H : Hp) (Q : VK) : Prop := ∃ a v, x = .ref a ∧ DGet H a y (some v) ∧ Q v H
def zDIn (y x : V) (H : Hp) (Q : VK) : Prop := ∃ a o, x = .ref a ∧ DGet H a y o ∧ Q (.bl o.isSome) H
def zDNotIn (y x : V) (H : Hp) (Q : VK) : Prop := ∃ a o, x = .ref a ∧ DGet H a y o ∧ Q (.bl (!o.isSome)) H
def zDPut (x y v : V) (H : Hp) (N : Hp → Prop) : Prop := ∃ a H4, x = .ref a ∧ DPut H a y v H4 ∧ N H4
def zFld (K : PySem.W.Frag) (x : V) (f : Str) (H : Hp) (Q : VK) : Prop := ∃ a C dx fs v, x = .ref a ∧ H a = some (.ins C dx fs) ∧ Cls K C ∧ NoAttr K C f ∧ fs.lookup f = some v ∧ Q v H
def zTy (K : PySem.W.Frag) (T : String) (x : V) (H : Hp) (N : Prop) : Prop := tyV K T x H ∧ N
def zGTup (K : PySem.W.Frag) (n : Nat) (t : TGs) (v : V) (σ : L2.St) (H : Hp) (Q : L2.St → Hp → Prop) : Prop := ∃ a xs, v = .ref a ∧ (SqT K H a xs ∨ SqL K H a xs) ∧ xs.length = n ∧ t xs σ H Q

section
variable {K : PySem.W.Frag} {σ : L2.St} {H : Hp} {Q : VK} {QB : Bool → Hp → Prop} {QA : List V → Hp → Prop} {N b c : L2.St → Hp → Prop} {r : VK} {ta tb tc te : TE} {t u : TT} {tt tu : TS} {tA : TA} {g : TG} {v w x y : V} {i j : Int} {n : Nat} {p q a : Addr} {xs ys : List V} {rr rr' : R2} {k : Bool} {A B : Prop}

/-! ### statements -/
theorem s_seq (h : tt ⟨tu ⟨N, r, b, c⟩, r, b, c⟩ σ H) : tSeq tt tu ⟨N, r, b, c⟩ σ H := h
theorem s_cut (Mid : L2.St → Hp → Prop) (h1 : tt ⟨Mid, r, b, c⟩ σ H) (h2 : ∀ σ' H', Mid σ' H' → tu ⟨N, r, b, c⟩ σ' H') : C8.tCut tt tu ⟨N, r, b, c⟩ σ H := ⟨Mid, h1, h2⟩
theorem s_next (h : N σ H) : tNext ⟨N, r, b, c⟩ σ H := h
theorem s_break (h : b σ H) : tBreak ⟨N, r, b, c⟩ σ H := h
theorem s_cont (h : c σ H) : tCont ⟨N, r, b, c⟩ σ H := h
theorem s_ret (h : te σ H r) : tRet te ⟨N, r, b, c⟩ σ H := h
theorem s_retN (h : r .non H) : tRetN ⟨N, r, b, c⟩ σ H := h
theorem s_drop (h : te σ H fun _ H1 => N σ H1) : tDrop te ⟨N, r, b, c⟩ σ H := h
theorem s_set (h : te σ H fun v H1 => N (σ.set n (some v)) H1) : tAsg te (gName n) ⟨N, r, b, c⟩ σ H := h
theorem s_asg (h : te σ H fun v H1 => g v σ H1 N) : tAsg te g ⟨N, r, b, c⟩ σ H := h
theorem s_if (h : t σ H fun k H1 => zIf k (tt ⟨N, r, b, c⟩ σ H1) (tu ⟨N, r, b, c⟩ σ H1)) : tIfS t tt tu ⟨N, r, b, c⟩ σ H := h
theorem s_dput {td ty tv : TE} (h : tv σ H fun v H1 => td σ H1 fun x H2 => ty σ H2 fun y H3 => zDPut x y v H3 fun H4 => N σ H4) : sDPut td ty tv ⟨N, r, b, c⟩ σ H := h
/-! ### targets -/
theorem s_gname {NN : L2.St → Hp → Prop} (h : NN (σ.set n (some v)) H) : gName n v σ H NN := h
theorem s_gsub {to ti : TE} {ts : TSet} {NN : L2.St → Hp → Prop} (h : to σ H fun o H1 => ti σ H1 fun i H2 => ts o i v H2 fun H3 => NN σ H3) : gSub to ti ts v σ H NN := h
theorem s_gtup {tg : TGs} {NN : L2.St → Hp → Prop} (hs : SqT K H a xs) (hl : xs.length = n) (h : tg xs σ H NN) : gTup K n tg (.ref a) σ H NN := ⟨a, xs, rfl, hs, hl, h⟩
theorem s_gnil {NN : L2.St → Hp → Prop} (h : NN σ H) : gNil [] σ H NN := ⟨rfl, h⟩
theorem s_gcons {t1 : TG} {t2 : TGs} {NN : L2.St → Hp → Prop} (h : t1 v σ H fun σ' H' => t2 xs σ' H' NN) : gCons t1 t2 (v :: xs) σ H NN := ⟨v, xs, rfl, h⟩
/-! ### expressions -/
theorem s_var (h : σ[n]? = some (some v)) (q : Q v H) : tVar n σ H Q := ⟨v, h, q⟩
theorem s_c (q : Q v H) : tC v σ H Q := q
theorem s_op (h : ta σ H fun x H1 => tb σ H1 fun y H2 => rr x y H2 Q) : tOp rr ta tb σ H Q := h
theorem s_un {ru : V → Hp → VK → Prop} (h : ta σ H fun x H1 => ru x H1 Q) : tUn ru ta σ H Q := h
theorem s_cb {rc : List V → Hp → VK → Prop} (h : tA σ H fun vs H1 => rc vs H1 Q) : tCB rc tA σ H Q := h
theorem s_nil (h : QA [] H) : tNil σ H QA := h
theorem s_cons {tr : TA} (h : ta σ H fun x H1 => tr σ H1 fun xs H2 => QA (x :: xs) H2) : tCons ta tr σ H QA := h
theorem s_call {sp : Sp} {E : XK} (h : tA σ H fun vs H1 => sp vs H1 Q E) : tCall sp [] E tA σ H Q := by
  show tA σ H fun vs H1 => sp (vs ++ []) H1 Q E
  simp only [List.append_nil]
  exact h
theorem s_tup (h : tA σ H fun xs H1 => zTup xs H1 Q) : tTup tA σ H Q := h
theorem s_lst (h : tA σ H fun xs H1 => zLst xs H1 Q) : tLst tA σ H Q := h
theorem s_ztup (h : Nat.ble xs.length sizeLine = true) (h2 : ∀ p, H p = none → Q (.ref p) (upd H p (.tup xs))) : zTup xs H Q := ⟨Nat.le_of_ble_eq_true h, h2⟩
theorem s_zlst (h : Nat.ble xs.length sizeLine = true) (h2 : ∀ p, H p = none → Q (.ref p) (upd H p (.lst xs))) : zLst xs H Q := ⟨Nat.le_of_ble_eq_true h, h2⟩
theorem s_test (h : te σ H fun x H1 => zB x H1 QB) : tTest te σ H QB := h
theorem s_B (h : te σ H fun x H1 => zB x H1 QB) : tB te σ H QB := h
theorem s_zB (h : QB k H) : zB (.bl k) H QB := ⟨k, rfl, h⟩
theorem s_and (h : t σ H fun k H1 => zIf k (u σ H1 QB) (QB false H1)) : tAnd t u σ H QB := h
theorem s_or (h : t σ H fun k H1 => zIf k (QB true H1) (u σ H1 QB)) : tOr t u σ H QB := h
theorem s_not (h : t σ H fun k H1 => QB (!k) H1) : tNot t σ H QB := h
theorem s_chain (h : ta σ H fun x H1 => tb σ H1 fun y H2 => rr x y H2 fun z H3 => zB z H3 fun k H3 => zIf k (tc σ H3 fun w H4 => rr' y w H4 Q) (Q (.bl false) H3)) : tChain rr rr' ta tb tc σ H Q := h
theorem s_ifE (h : t σ H fun k H1 => zIf k (ta σ H1 Q) (tb σ H1 Q)) : tIf t ta tb σ H Q := h
theorem s_bm {T : String} {rm : V → List V → Hp → VK → Prop} (h : ta σ H fun x H1 => zTy K T x H1 (tA σ H1 fun xs H2 => rm x xs H2 Q)) : tBM K T rm ta tA σ H Q := h
theorem s_bm0 {T : String} {rm : V → List V → Hp → VK → Prop} (h : ta σ H fun x H1 => zTy K T x H1 (rm x [] H1 Q)) : tBM0 K T rm ta σ H Q := h
theorem s_fld {f : Str} (h : ta σ H fun x H1 => zFld K x f H1 Q) : tFld K ta f σ H Q := h
theorem s_dget {td ty : TE} (h : td σ H fun x H1 => ty σ H1 fun y H2 => zDGet x y H2 Q) : tDGet td ty σ H Q := h
theorem s_din {td ty : TE} (h : ty σ H fun y H1 => td σ H1 fun x H2 => zDIn y x H2 Q) : tDIn ty td σ H Q := h
theorem s_dnotin {td ty : TE} (h : ty σ H fun y H1 => td σ H1 fun x H2 => zDNotIn y x H2 Q) : tDNotIn ty td σ H Q := h
theorem s_dnew (h : ∀ p, H p = none → Q (.ref p) (upd H p (.dK []))) : tDNewK σ H Q := h
theorem s_disp {trs : List (TE × TE)} (h : ∀ p, H p = none → tPairs trs σ (upd H p (.dK [])) fun ps H2 => H2 p = some (.dK []) ∧ ∃ kvs : List (Key × V), ps = kvs.map (fun kv => (kV kv.1, kv.2)) ∧ kvs.length ≤ 15 ∧ Q (.ref p) (upd H2 p (.dK (mergeK [] kvs)))) : tDisp trs σ H Q := h
theorem s_pnil {QP : List (V × V) → Hp → Prop} (h : QP [] H) : tPairs [] σ H QP := h
theorem s_pcons {tk tv : TE} {trs : List (TE × TE)} {QP : List (V × V) → Hp → Prop} (h : tk σ H fun x H1 => tv σ H1 fun y H2 => tPairs trs σ H2 fun ps H3 => QP ((x, y) :: ps) H3) : tPairs ((tk, tv) :: trs) σ H QP := h
theorem s_andV (h : ta σ H fun x H1 => zB x H1 fun k H1 => zIf k (tb σ H1 Q) (Q (.bl false) H1)) : tAndV ta tb σ H Q := h
theorem s_orV (h : ta σ H fun x H1 => zB x H1 fun k H1 => zIf k (Q (.bl true) H1) (tb σ H1 Q)) : tOrV ta tb σ H Q := h
theorem s_notV (h : ta σ H fun x H1 => zB x H1 fun k H1 => Q (.bl (!k)) H1) : tNotV ta σ H Q := h
/-! ### by values -/
theorem s_rI0 {gg : Int → Int → V} (h : Q (gg i j) H) : rI0 gg (.int i) (.int j) H Q := ⟨i, j, rfl, rfl, h⟩
theorem s_rU {gg : Int → V} (h : Q (gg i) H) : rU gg (.int i) H Q := ⟨i, rfl, h⟩
theorem s_fdv (h0 : j ≠ 0 ∧ j.natAbs.log2 < 9000) (h : Q (.int (i.fdiv j)) H) : rFdv (.int i) (.int j) H Q := ⟨i, j, rfl, rfl, h0, h⟩
theorem s_mod (h0 : j ≠ 0) (h : Q (.int (i.fmod j)) H) : rMod (.int i) (.int j) H Q := ⟨i, j, rfl, rfl, h0, h⟩
theorem s_fdvp (h0 : 0 < j ∧ j < 2 ^ 64) (h : Q (.int (i / j)) H) : rFdv (.int i) (.int j) H Q := ⟨i, j, rfl, rfl, ⟨by omega, Nat.lt_of_lt_of_le (PySem.Flt.log2_lt_of (k := 64) (by decide) (by omega)) (by decide)⟩, by
  show Q (.int (i.fdiv j)) H
  rw [Int.fdiv_eq_ediv_of_nonneg i (by omega)]; exact h⟩
theorem s_modp (h0 : 0 < j) (h : Q (.int (i % j)) H) : rMod (.int i) (.int j) H Q := ⟨i, j, rfl, rfl, by omega, by
  show Q (.int (i.fmod j)) H
  rw [Int.fmod_eq_emod_of_nonneg i (by omega)]; exact h⟩
theorem s_mulp (h0 : (-18446744073709551616 < i ∧ i < 18446744073709551616) ∨ (-18446744073709551616 < j ∧ j < 18446744073709551616)) (h : Q (.int (i * j)) H) : rMul (.int i) (.int j) H Q := ⟨i, j, rfl, rfl, .inl h0, h⟩
theorem s_mul (h0 : CMul i j ∨ CMulW i j) (h : Q (.int (i * j)) H) : rMul (.int i) (.int j) H Q := ⟨i, j, rfl, rfl, h0, h⟩
theorem s_add_i (h : Q (.int (i + j)) H) : rAddU K (.int i) (.int j) H Q := .inl ⟨i, j, rfl, rfl, h⟩
theorem s_add_s {z w : Str} (h0 : z.length + w.length ≤ sizeLine) (h : Q (.str (z ++ w)) H) : rAddU K (.str z) (.str w) H Q := .inr (.inl ⟨z, w, rfl, rfl, h0, h⟩)
theorem s_add_l (h1 : H p = some (.lst xs)) (h2 : H q = some (.lst ys)) (h0 : xs.length + ys.length ≤ sizeLine) (h : ∀ a, H a = none → Q (.ref a) (upd H a (.lst (xs ++ ys)))) : rAddU K (.ref p) (.ref q) H Q := .inr (.inr (.inl ⟨p, q, xs, ys, rfl, rfl, h1, h2, h0, h⟩))
theorem s_add_t (h1 : SqT K H p xs) (h2 : SqT K H q ys) (hx : xs ≠ []) (hy : ys ≠ []) (h0 : xs.length + ys.length ≤ sizeLine) (h : ∀ a, H a = none → Q (.ref a) (upd H a (.tup (xs ++ ys)))) : rAddU K (.ref p) (.ref q) H Q := .inr (.inr (.inr ⟨p, q, xs, ys, rfl, rfl, h1, h2, hx, h0, fun e => absurd e hy, fun _ => h⟩))
theorem s_eq_i (h : Q (.bl (decide (i = j))) H) : rEqU K (.int i) (.int j) H Q := .inl ⟨rfl, by rw [show decide (V.int i = V.int j) = decide (i = j) by simp]; exact h⟩
theorem s_ne_i (h : Q (.bl (!decide (i = j))) H) : rNeU K (.int i) (.int j) H Q := .inl ⟨rfl, by rw [show decide (V.int i = V.int j) = decide (i = j) by simp]; exact h⟩
theorem s_eq_s {z w : Str} (h : Q (.bl (decide (z = w))) H) : rEqU K (.str z) (.str w) H Q := .inl ⟨rfl, by rw [show decide (V.str z = V.str w) = decide (z = w) by simp]; exact h⟩
theorem s_ne_s {z w : Str} (h : Q (.bl (!decide (z = w))) H) : rNeU K (.str z) (.str w) H Q := .inl ⟨rfl, by rw [show decide (V.str z = V.str w) = decide (z = w) by simp]; exact h⟩
theorem s_eq_v (h0 : scal x y = true) (h : Q (.bl (decide (x = y))) H) : rEqU K x y H Q := .inl ⟨h0, h⟩
theorem s_ne_v (h0 : scal x y = true) (h : Q (.bl (!decide (x = y))) H) : rNeU K x y H Q := .inl ⟨h0, h⟩
theorem s_eq_d {d e : PyData} (h1 : Dp K H x d) (h2 : Dp K H y e) (h3 : SeqAt.shaped d = true) (h4 : SeqAt.shaped e = true) (h : Q (.bl (PyData.eqv d e)) H) : rEqU K x y H Q := .inr ⟨d, e, h1, h2, h3, h4, h⟩
theorem s_ne_d {d e : PyData} (h1 : Dp K H x d) (h2 : Dp K H y e) (h3 : SeqAt.shaped d = true) (h4 : SeqAt.shaped e = true) (h : Q (.bl (!PyData.eqv d e)) H) : rNeU K x y H Q := .inr ⟨d, e, h1, h2, h3, h4, h⟩
theorem s_ix_l (h1 : SqL K H p xs) (h2 : atI xs i = some v) (h : Q v H) : rIx K (.ref p) (.int i) H Q := .inl ⟨p, xs, i, v, rfl, rfl, h1, h2, h⟩
theorem s_ix_t (h1 : SqT K H p xs) (h2 : atI xs i = some v) (h : Q v H) : rIx K (.ref p) (.int i) H Q := .inr (.inl ⟨p, xs, i, v, rfl, rfl, h1, h2, h⟩)
theorem s_ix_s {z : Str} {cc : Nat} (h1 : z.length ≤ sizeLine) (h2 : atI z.cps.toList i = some cc) (h : Q (.str ⟨#[cc]⟩) H) : rIx K (.str z) (.int i) H Q := .inr (.inr ⟨z, i, cc, rfl, rfl, h1, h2, h⟩)
theorem s_setL {N1 : Hp → Prop} (h1 : H p = some (.lst xs)) (h2 : ixN xs.length i = some n) (h : N1 (upd H p (.lst (xs.set n v)))) : rSetL (.ref p) (.int i) v H N1 := ⟨p, xs, i, n, rfl, rfl, h1, h2, h⟩
theorem s_len_l (h1 : SqL K H p xs) (h : Q (.int xs.length) H) : rLen K [.ref p] H Q := ⟨_, xs.length, rfl, .inl ⟨xs, h1, rfl⟩, h⟩
theorem s_len_t (h1 : SqT K H p xs) (h : Q (.int xs.length) H) : rLen K [.ref p] H Q := ⟨_, xs.length, rfl, .inr ⟨xs, h1, rfl⟩, h⟩
theorem s_len_s {z : Str} (h1 : z.length ≤ sizeLine) (h : Q (.int z.length) H) : rLen K [.str z] H Q := ⟨_, z.length, rfl, ⟨h1, rfl⟩, h⟩
theorem s_min2 (h : Q (.int (if j < i then j else i)) H) : rMin2 [.int i, .int j] H Q := ⟨i, j, rfl, h⟩
theorem s_max2 (h : Q (.int (if j > i then j else i)) H) : rMax2 [.int i, .int j] H Q := ⟨i, j, rfl, h⟩
theorem s_listof_l (h1 : SqL K H p xs) (h : ∀ l, H l = none → Q (.ref l) (upd H l (.lst xs))) : rListOf K [.ref p] H Q := ⟨p, xs, rfl, .inl h1, h⟩
theorem s_listof_t (h1 : SqT K H p xs) (h : ∀ l, H l = none → Q (.ref l) (upd H l (.lst xs))) : rListOf K [.ref p] H Q := ⟨p, xs, rfl, .inr h1, h⟩
theorem s_tupof_l (h1 : SqL K H p xs) (h : ∀ l, H l = none → Q (.ref l) (upd H l (.tup xs))) : rTupOf K [.ref p] H Q := ⟨p, xs, rfl, .inl ⟨h1, h⟩⟩
theorem s_tupof_t (h1 : SqT K H p xs) (h : Q (.ref p) H) : rTupOf K [.ref p] H Q := ⟨p, xs, rfl, .inr ⟨h1, h⟩⟩
theorem s_int1 (h : Q (.int i) H) : rInt1 [.int i] H Q := .inl ⟨i, rfl, h⟩
theorem s_int1b (h : Q (.int (if k then 1 else 0)) H) : rInt1 [.bl k] H Q := .inr ⟨k, rfl, h⟩
theorem s_abs (h : Q (.int (if i < 0 then -i else i)) H) : rAbs [.int i] H Q := ⟨i, rfl, h⟩
theorem s_strI (h0 : i.natAbs.log2 < 1920) (h : Q (.str (toString i)) H) : rStrI [.int i] H Q := ⟨i, rfl, h0, h⟩
theorem s_isi {cc : V} {ty uu : Value} {bb : Bool} (h1 : ClsV cc uu) (h2 : TyX K H x ty) (h3 : PySem.W.kitOne K ty uu = some bb) (h : Q (.bl bb) H) : rIsi2 K [x, cc] H Q := .inl ⟨x, cc, ty, uu, bb, rfl, h1, h2, h3, h⟩
theorem s_isN_i (h : Q (.bl false) H) : rIsNz (.int i) .non H Q := ⟨rfl, by rw [decide_eq_false (by intro z; cases z)]; exact h⟩
theorem s_isN_r (h : Q (.bl false) H) : rIsNz (.ref p) .non H Q := ⟨rfl, by rw [decide_eq_false (by intro z; cases z)]; exact h⟩
theorem s_isN_s {z : Str} (h : Q (.bl false) H) : rIsNz (.str z) .non H Q := ⟨rfl, by rw [decide_eq_false (by intro z; cases z)]; exact h⟩
theorem s_isN_n (h : Q (.bl true) H) : rIsNz .non .non H Q := ⟨rfl, by rw [decide_eq_true rfl]; exact h⟩
theorem s_notN_i (h : Q (.bl true) H) : rNotNz (.int i) .non H Q := ⟨rfl, by rw [decide_eq_false (by intro z; cases z)]; exact h⟩
theorem s_notN_r (h : Q (.bl true) H) : rNotNz (.ref p) .non H Q := ⟨rfl, by rw [decide_eq_false (by intro z; cases z)]; exact h⟩
theorem s_notN_s {z : Str} (h : Q (.bl true) H) : rNotNz (.str z) .non H Q := ⟨rfl, by rw [decide_eq_false (by intro z; cases z)]; exact h⟩
theorem s_notN_n (h : Q (.bl false) H) : rNotNz .non .non H Q := ⟨rfl, by rw [decide_eq_true rfl]; exact h⟩
theorem s_slL {te' : TE} {tl th : TO} {rs : V → Option Int → Option Int → Hp → VK → Prop} (h : te' σ H fun x H1 => tl σ H1 fun l H2 => th σ H2 fun u H3 => rs x l u H3 Q) : tSl rs te' tl th σ H Q := h
theorem s_nopart {QO : Option Int → Hp → Prop} (h : QO none H) : tNoPart σ H QO := h
def zPart (x : V) (H : Hp) (QO : Option Int → Hp → Prop) : Prop := ∃ i, x = .int i ∧ QO (some i) H
theorem s_part {QO : Option Int → Hp → Prop} (h : te σ H fun x H1 => zPart x H1 QO) : tPart te σ H QO := h
theorem s_zpart {QO : Option Int → Hp → Prop} (h : QO (some i) H) : zPart (.int i) H QO := ⟨i, rfl, h⟩
theorem s_cutL {lo hi : Option Int} (h1 : SqL K H a xs) (h : ∀ p, H p = none → Q (.ref p) (upd H p (.lst (cutV xs lo hi)))) : rSlL K (.ref a) lo hi H Q := ⟨a, xs, rfl, h1, h⟩
theorem s_isN (h : Q (.bl (decide (x = .non))) H) : rIsNz x .non H Q := ⟨rfl, h⟩
theorem s_notN (h : Q (.bl (!decide (x = .non))) H) : rNotNz x .non H Q := ⟨rfl, h⟩
theorem s_gun_t {tg : TGs} {NN : L2.St → Hp → Prop} (hs : SqT K H a xs) (hl : xs.length = n) (h : tg xs σ H NN) : gUn K n tg (.ref a) σ H NN := .inl ⟨a, xs, rfl, hs, hl, h⟩
theorem s_gun_l {tg : TGs} {NN : L2.St → Hp → Prop} (hs : SqL K H a xs) (hl : xs.length = n) (h : tg xs σ H NN) : gUn K n tg (.ref a) σ H NN := .inr ⟨a, xs, rfl, hs, hl, h⟩
theorem s_p18 (h : Q (.int 1000000000000000000) H) : rI CPow (fun i j => .int (i ^ j.toNat)) (.int 10) (.int 18) H Q := ⟨10, 18, rfl, rfl, by unfold CPow; decide, h⟩
theorem s_callS {W : WX} {sp : Sp} (h : tA σ H fun vs H1 => sp vs H1 Q (WE W σ)) : tCallS sp (WE W) tA σ H Q := h
theorem s_in_l (h1 : SqL K H p xs) (h2 : flatV x = true) (h3 : xs.all flatV = true) (h : Q (.bl (inV x xs)) H) : rIn K false x (.ref p) H Q := ⟨p, xs, rfl, .inl h1, h2, h3, h⟩
theorem s_in_t (h1 : SqT K H p xs) (h2 : flatV x = true) (h3 : xs.all flatV = true) (h : Q (.bl (inV x xs)) H) : rIn K false x (.ref p) H Q := ⟨p, xs, rfl, .inr h1, h2, h3, h⟩
theorem s_nin_l (h1 : SqL K H p xs) (h2 : flatV x = true) (h3 : xs.all flatV = true) (h : Q (.bl (!inV x xs)) H) : rIn K true x (.ref p) H Q := ⟨p, xs, rfl, .inl h1, h2, h3, h⟩
theorem s_nin_t (h1 : SqT K H p xs) (h2 : flatV x = true) (h3 : xs.all flatV = true) (h : Q (.bl (!inV x xs)) H) : rIn K true x (.ref p) H Q := ⟨p, xs, rfl, .inr h1, h2, h3, h⟩
theorem s_append (h1 : H p = some (.lst xs)) (h2 : xs.length < sizeLine) (h : Q .non (upd H p (.lst (xs ++ [v])))) : rAppend (.ref p) [v] H Q := ⟨p, xs, v, rfl, rfl, h1, h2, h⟩
theorem s_zTyL {N0 : Prop} (h1 : H p = some (.lst xs)) (h : N0) : zTy K "list" (.ref p) H N0 := ⟨.inl ⟨rfl, xs, .inl (.inl h1)⟩, h⟩
theorem s_zDGet_s {z : Str} {kvs : List (Key × V)} (h1 : Rd H p (.dK kvs)) (h2 : valV kvs (Sum.inr z : Key) = some v) (h : Q v H) : zDGet (.ref p) (.str z) H Q := ⟨p, v, rfl, .inl ⟨kvs, Sum.inr z, h1, rfl, h2.symm⟩, h⟩
theorem s_zDGet_i {kvs : List (Key × V)} (h1 : Rd H p (.dK kvs)) (h2 : valV kvs (Sum.inl i : Key) = some v) (h : Q v H) : zDGet (.ref p) (.int i) H Q := ⟨p, v, rfl, .inl ⟨kvs, Sum.inl i, h1, rfl, h2.symm⟩, h⟩
theorem s_zDIn_s {z : Str} {kvs : List (Key × V)} (h1 : Rd H p (.dK kvs)) (h : Q (.bl (valV kvs (Sum.inr z : Key)).isSome) H) : zDIn (.str z) (.ref p) H Q := ⟨p, _, rfl, .inl ⟨kvs, Sum.inr z, h1, rfl, rfl⟩, h⟩
theorem s_zDIn_i {kvs : List (Key × V)} (h1 : Rd H p (.dK kvs)) (h : Q (.bl (valV kvs (Sum.inl i : Key)).isSome) H) : zDIn (.int i) (.ref p) H Q := ⟨p, _, rfl, .inl ⟨kvs, Sum.inl i, h1, rfl, rfl⟩, h⟩
theorem s_zDNotIn_s {z : Str} {kvs : List (Key × V)} (h1 : Rd H p (.dK kvs)) (h : Q (.bl (!(valV kvs (Sum.inr z : Key)).isSome)) H) : zDNotIn (.str z) (.ref p) H Q := ⟨p, _, rfl, .inl ⟨kvs, Sum.inr z, h1, rfl, rfl⟩, h⟩
theorem s_zDNotIn_i {kvs : List (Key × V)} (h1 : Rd H p (.dK kvs)) (h : Q (.bl (!(valV kvs (Sum.inl i : Key)).isSome)) H) : zDNotIn (.int i) (.ref p) H Q := ⟨p, _, rfl, .inl ⟨kvs, Sum.inl i, h1, rfl, rfl⟩, h⟩
theorem s_zDPut_s {z : Str} {kvs : List (Key × V)} {N1 : Hp → Prop} (h1 : H p = some (.dK kvs)) (h2 : kvs.length < sizeLine) (h : N1 (upd H p (.dK (putK kvs (Sum.inr z : Key) v)))) : zDPut (.ref p) (.str z) v H N1 := ⟨p, _, rfl, .inl ⟨kvs, Sum.inr z, h1, rfl, h2, rfl⟩, h⟩
theorem s_zDPut_i {kvs : List (Key × V)} {N1 : Hp → Prop} (h1 : H p = some (.dK kvs)) (h2 : kvs.length < sizeLine) (h : N1 (upd H p (.dK (putK kvs (Sum.inl i : Key) v)))) : zDPut (.ref p) (.int i) v H N1 := ⟨p, _, rfl, .inl ⟨kvs, Sum.inl i, h1, rfl, h2, rfl⟩, h⟩
theorem s_zFld {C dx : Addr} {fs : List (Str × V)} {f : Str} (h1 : H p = some (.ins C dx fs)) (hc : Cls K C) (hn : NoAttr K C f) (hl : fs.lookup f = some v) (h : Q v H) : zFld K (.ref p) f H Q := ⟨p, C, dx, fs, v, rfl, h1, hc, hn, hl, h⟩
/-! ### ways -/
theorem s_ift (h : A) : zIf true A B := by unfold zIf; rw [if_pos rfl]; exact h
theorem s_iff (h : B) : zIf false A B := by unfold zIf; rw [if_neg Bool.false_ne_true]; exact h
theorem s_ifnn {D : Prop} [Decidable D] (h1 : ¬ D → A) (h2 : D → B) : zIf (!decide D) A B := by
  by_cases h : D
  · rw [decide_eq_true h]; exact s_iff (h2 h)
  · rw [decide_eq_false h]; exact s_ift (h1 h)
theorem s_nt (h : B) : zIf (!true) A B := s_iff h
theorem s_nf (h : A) : zIf (!false) A B := s_ift h
theorem s_ifd {D : Prop} [Decidable D] (h1 : D → A) (h2 : ¬ D → B) : zIf (decide D) A B := by
  by_cases h : D
  · rw [decide_eq_true h]; exact s_ift (h1 h)
  · rw [decide_eq_false h]; exact s_iff (h2 h)
theorem s_ifn {D : Prop} [Decidable D] (h1 : ¬ D → A) (h2 : D → B) : zIf (!decide D) A B := by
  by_cases h : D
  · rw [decide_eq_true h]; exact s_iff (h2 h)
  · rw [decide_eq_false h]; exact s_ift (h1 h)
theorem s_ifdt {D : Prop} [Decidable D] (h : D) (h1 : A) : zIf (decide D) A B := by rw [decide_eq_true h]; exact s_ift h1
theorem s_ifdf {D : Prop} [Decidable D] (h : ¬ D) (h1 : B) : zIf (decide D) A B := by rw [decide_eq_false h]; exact s_iff h1
theorem s_ifk (h1 : k = true → A) (h2 : k = false → B) : zIf k A B := by
  cases k with
  | true => exact s_ift (h1 rfl)
  | false => exact s_iff (h2 rfl)
theorem s_ifkt (h : k = true) (h1 : A) : zIf k A B := by subst h; exact s_ift h1
theorem s_ifkf (h : k = false) (h1 : B) : zIf k A B := by subst h; exact s_iff h1
/-! ### loops -/
/-- a loop whose iterator stands -/
def zLoop (J : It) (g : TG) (tb : TS) (D : Ends) (σ : L2.St) (H1 : Hp) : Prop := ∃ W : Nat → Nat → L2.St → Hp → Prop, (∃ m, W 0 m σ H1) ∧ ∀ i m σ H, W i m σ H →
  (J.stop i H ∧ D.nx σ H) ∨ (J.go i H ∧ ∃ N : L2.St → Hp → Prop, (∀ σ' H', N σ' H' → ∃ m', m' < m ∧ W (i + 1) m' σ' H') ∧ ∀ x H', J.yld i H x H' → g x σ H' fun σ2 H2 => tb { D with nx := N, ct := N, bk := D.nx } σ2 H2)
def zRng1 (vs : List V) (H : Hp) (R : It → Hp → Prop) : Prop := ∃ j : Int, vs = [.int j] ∧ -(2 ^ 62) ≤ j ∧ j < 2 ^ 62 ∧ R (Itr 0 j.toNat) H
def zRng2 (vs : List V) (H : Hp) (R : It → Hp → Prop) : Prop := ∃ i j : Int, vs = [.int i, .int j] ∧ (-(2 ^ 62) ≤ i ∧ i < 2 ^ 62 ∧ -(2 ^ 62) ≤ j ∧ j < 2 ^ 62) ∧ R (Itr i (j - i).toNat) H
def zItL (K : PySem.W.Frag) (x : V) (H : Hp) (R : It → Hp → Prop) : Prop := ∃ a, x = .ref a ∧ (∃ xs, SqL K H a xs) ∧ R (Itl K a) H
def zItT (K : PySem.W.Frag) (x : V) (H : Hp) (R : It → Hp → Prop) : Prop := ∃ a, x = .ref a ∧ (∃ xs, SqT K H a xs) ∧ R (Itt K a) H
/-- a comprehension whose iterator stands -/
def zLc (J : It) (g : TG) (t : TT) (te : TE) (vs : List Nat) (σ : L2.St) (H1 : Hp) (Q : VK) : Prop := ∀ D, H1 D = none → ∃ W : Nat → Nat → Hp → Prop, (∃ m, W 0 m (upd H1 D (.lst []))) ∧ ∀ i m H, W i m H →
  (J.stop i H ∧ Q (.ref D) H) ∨ (J.go i H ∧ ∃ Nx : Hp → Prop, (∀ H', Nx H' → ∃ m', m' < m ∧ W (i + 1) m' H') ∧ ∀ x H', J.yld i H x H' → g x (wipe σ vs) H' fun σ2 H2 => wipe σ2 vs = wipe σ vs ∧ t σ2 H2 fun b H3 =>
    if b = true then te σ2 H3 fun y H4 => ∃ acc, H4 D = some (.lst acc) ∧ acc.length < sizeLine ∧ Nx (upd H4 D (.lst (acc ++ [y]))) else Nx H3)
def zWipe (vs : List Nat) (σ σ2 : L2.St) (A : Prop) : Prop := wipe σ2 vs = wipe σ vs ∧ A
def zAcc (D : Addr) (y : V) (H : Hp) (P : Hp → Prop) : Prop := ∃ acc, H D = some (.lst acc) ∧ acc.length < sizeLine ∧ P (upd H D (.lst (acc ++ [y])))
theorem s_lc {wi : TI} {vs : List Nat} (h : wi σ H fun J H1 => zLc J g t te vs σ H1 Q) : tLc wi g t te vs σ H Q := h
theorem s_yes (h : QB true H) : tYes σ H QB := h
theorem s_wipe {vs : List Nat} {σ2 : L2.St} (h : wipe σ2 vs = wipe σ vs) (h1 : A) : zWipe vs σ σ2 A := ⟨h, h1⟩
theorem s_acc {D : Addr} {acc : List V} {P : Hp → Prop} (h1 : H D = some (.lst acc)) (h2 : acc.length < sizeLine) (h : P (upd H D (.lst (acc ++ [y])))) : zAcc D y H P := ⟨acc, h1, h2, h⟩
theorem lc_rng {lo : Int} {vs : List Nat} (Pv : Addr → Nat → Hp → Prop) (h0 : ∀ D, H D = none → Pv D 0 (upd H D (.lst [])))
    (hs : ∀ D i H', H D = none → i < n → Pv D i H' → g (.int (lo + (i : Int))) (wipe σ vs) H' fun σ2 H2 => zWipe vs σ σ2 (t σ2 H2 fun k H3 => zIf k (te σ2 H3 fun y H4 => zAcc D y H4 (Pv D (i + 1))) (Pv D (i + 1) H3)))
    (hd : ∀ D H', H D = none → Pv D n H' → Q (.ref D) H') : zLc (Itr lo n) g t te vs σ H Q := fun D hD =>
  lc_range (Pv D) (h0 D hD) (fun i H' hi hp => hs D i H' hD hi hp) (fun H' hp => hd D H' hD hp)
theorem lc_lst {vs : List Nat} (xs : List V) (Pv : Addr → Nat → Hp → Prop) (h0 : ∀ D, H D = none → Pv D 0 (upd H D (.lst []))) (hl : ∀ D i H', H D = none → i ≤ xs.length → Pv D i H' → SqL K H' p xs)
    (hs : ∀ D i x H', H D = none → xs[i]? = some x → Pv D i H' → g x (wipe σ vs) H' fun σ2 H2 => zWipe vs σ σ2 (t σ2 H2 fun k H3 => zIf k (te σ2 H3 fun y H4 => zAcc D y H4 (Pv D (i + 1))) (Pv D (i + 1) H3)))
    (hd : ∀ D H', H D = none → Pv D xs.length H' → Q (.ref D) H') : zLc (Itl K p) g t te vs σ H Q := fun D hD =>
  lc_list (xs := xs) (Pv D) (h0 D hD) (fun i H' hi hp => hl D i H' hD hi hp) (fun i x H' hx hp => hs D i x H' hD hx hp) (fun H' hp => hd D H' hD hp)
theorem s_for {wi : TI} {tb1 : TS} (h : wi σ H fun J H1 => zLoop J g tb1 ⟨N, r, b, c⟩ σ H1) : tFor wi g tb1 ⟨N, r, b, c⟩ σ H := h
theorem s_rng1 {R : It → Hp → Prop} (h : tA σ H fun vs H1 => zRng1 vs H1 R) : iRng1 tA σ H R := h
theorem s_rng2 {R : It → Hp → Prop} (h : tA σ H fun vs H1 => zRng2 vs H1 R) : iRng2 tA σ H R := h
theorem s_itl {R : It → Hp → Prop} (h : te σ H fun x H1 => zItL K x H1 R) : iList K te σ H R := h
theorem s_itt {R : It → Hp → Prop} (h : te σ H fun x H1 => zItT K x H1 R) : iTup K te σ H R := h
theorem s_zrng1 {R : It → Hp → Prop} (h1 : -(2 ^ 62) ≤ j ∧ j < 2 ^ 62) (h : R (Itr 0 j.toNat) H) : zRng1 [.int j] H R := ⟨j, rfl, h1.1, h1.2, h⟩
theorem s_zrng2 {R : It → Hp → Prop} (h1 : -(2 ^ 62) ≤ i ∧ i < 2 ^ 62 ∧ -(2 ^ 62) ≤ j ∧ j < 2 ^ 62) (h : R (Itr i (j - i).toNat) H) : zRng2 [.int i, .int j] H R := ⟨i, j, rfl, h1, h⟩
theorem s_zitl {R : It → Hp → Prop} (h1 : SqL K H p xs) (h : R (Itl K p) H) : zItL K (.ref p) H R := ⟨p, rfl, ⟨xs, h1⟩, h⟩
theorem s_zitt {R : It → Hp → Prop} (h1 : SqT K H p xs) (h : R (Itt K p) H) : zItT K (.ref p) H R := ⟨p, rfl, ⟨xs, h1⟩, h⟩
theorem loop_range {tb1 : TS} {lo : Int} (Pv : Nat → L2.St → Hp → Prop) (h0 : Pv 0 σ H) (hs : ∀ i σ' H', i < n → Pv i σ' H' → g (.int (lo + (i : Int))) σ' H' fun σ2 H2 => tb1 ⟨Pv (i + 1), r, N, Pv (i + 1)⟩ σ2 H2)
    (hd : ∀ σ' H', Pv n σ' H' → N σ' H') : zLoop (Itr lo n) g tb1 ⟨N, r, b, c⟩ σ H := for_range (D := ⟨N, r, b, c⟩) Pv h0 hs hd
theorem loop_list {tb1 : TS} (xs : List V) (Pv : Nat → L2.St → Hp → Prop) (h0 : Pv 0 σ H) (hl : ∀ i σ' H', i ≤ xs.length → Pv i σ' H' → SqL K H' p xs)
    (hs : ∀ i x σ' H', xs[i]? = some x → Pv i σ' H' → g x σ' H' fun σ2 H2 => tb1 ⟨Pv (i + 1), r, N, Pv (i + 1)⟩ σ2 H2) (hd : ∀ σ' H', Pv xs.length σ' H' → N σ' H') : zLoop (Itl K p) g tb1 ⟨N, r, b, c⟩ σ H :=
  for_list (D := ⟨N, r, b, c⟩) (xs := xs) Pv h0 hl hs hd
theorem loop_tup {tb1 : TS} (xs : List V) (Pv : Nat → L2.St → Hp → Prop) (h0 : Pv 0 σ H) (hl : ∀ i σ' H', i ≤ xs.length → Pv i σ' H' → SqT K H' p xs)
    (hs : ∀ i x σ' H', xs[i]? = some x → Pv i σ' H' → g x σ' H' fun σ2 H2 => tb1 ⟨Pv (i + 1), r, N, Pv (i + 1)⟩ σ2 H2) (hd : ∀ σ' H', Pv xs.length σ' H' → N σ' H') : zLoop (Itt K p) g tb1 ⟨N, r, b, c⟩ σ H :=
  for_tup (D := ⟨N, r, b, c⟩) (xs := xs) Pv h0 hl hs hd
def zBody (W : Nat → L2.St → Hp → Prop) (m : Nat) (tb : TS) (D : Ends) (σ : L2.St) (H1 : Hp) : Prop := ∃ N1 : L2.St → Hp → Prop, (∀ σ' H', N1 σ' H' → ∃ m', m' < m ∧ W m' σ' H') ∧ tb { D with nx := N1, ct := N1, bk := D.nx } σ H1
theorem s_zbody {W : Nat → L2.St → Hp → Prop} {m : Nat} {tb1 : TS} (h : tb1 ⟨fun σ2 H2 => ∃ m', m' < m ∧ W m' σ2 H2, r, N, fun σ2 H2 => ∃ m', m' < m ∧ W m' σ2 H2⟩ σ H) : zBody W m tb1 ⟨N, r, b, c⟩ σ H := ⟨_, fun σ2 H2 z => z, h⟩
theorem s_while {tb1 : TS} (W : Nat → L2.St → Hp → Prop) (m0 : Nat) (h0 : W m0 σ H)
    (hs : ∀ (m : Nat) σ' H', W m σ' H' → t σ' H' fun k H1 => zIf k (zBody W m tb1 ⟨N, r, b, c⟩ σ' H1) (N σ' H1)) : tWhile t tb1 ⟨N, r, b, c⟩ σ H := ⟨W, ⟨m0, h0⟩, fun m σ' H' w => hs m σ' H' w⟩
/-! ### heaps -/
theorem up_new {H : Hp} {q a : Addr} {o u : HO} (hq : H q = none) (h : H a = some o) : upd H q u a = some o := by rw [upd_ne (ne_of_none h hq)]; exact h
theorem up_far {H : Hp} {q a : Addr} {o u : HO} (hn : a ≠ q) (h : H a = some o) : upd H q u a = some o := by rw [upd_ne hn]; exact h
theorem sm_rd {H H' : Hp} {a : Addr} {o : HO} (S : Same H H') (h : H a = some o) : H' a = some o := S a o h
theorem same_new {H : Hp} {p : Addr} {o : HO} (h : H p = none) : Same H (upd H p o) := fun b u q => by rw [upd_ne (ne_of_none q h)]; exact q
def Fz : HO → Prop
  | .frz _ _ => True
  | _ => False
/-- all but what stands at p (and isn't locked) is as it was -/
def But (p : Addr) (H H' : Hp) : Prop := ∀ b o, (b ≠ p ∨ Fz o) → H b = some o → H' b = some o
theorem But.refl (p : Addr) (H : Hp) : But p H H := fun _ _ _ h => h
theorem But.trans {p : Addr} {H H1 H2 : Hp} (a : But p H H1) (b : But p H1 H2) : But p H H2 := fun c o n h => b c o n (a c o n h)
theorem But.rd {p : Addr} {H H' : Hp} {a : Addr} {o : HO} (S : But p H H') (n : a ≠ p) (h : H a = some o) : H' a = some o := S a o (.inl n) h
theorem But.of {p : Addr} {H H' : Hp} (S : Same H H') : But p H H' := fun b o _ h => S b o h
theorem But.up {p : Addr} {H H' : Hp} {o u : HO} (S : But p H H') (hp : H' p = some u) (nf : ¬ Fz u) : But p H (L2.upd H' p o) := fun b v n h => by
  have h' := S b v n h
  by_cases e : b = p
  · subst e
    rw [hp] at h'
    cases h'
    rcases n with n | n
    · exact absurd rfl n
    · exact absurd n nf
  · rw [upd_ne e]; exact h'
theorem But.new {p q : Addr} {H H' : Hp} {o : HO} (S : But p H H') (hq : H' q = none) : But p H (L2.upd H' q o) := fun b u n h => by rw [upd_ne (ne_of_none (S b u n h) hq)]; exact S b u n h
theorem But.none {p b : Addr} {H H' : Hp} (S : But p H H') (n : b ≠ p) (h : H' b = Option.none) : H b = Option.none := by
  cases e : H b with
  | none => rfl
  | some o => rw [S b o (.inl n) e] at h; cases h
theorem But.sqL {K : PySem.W.Frag} {p : Addr} {H H' : Hp} {a : Addr} {xs : List V} (S : But p H H') (n : a ≠ p) (h : SqL K H a xs) : SqL K H' a xs := by
  rcases h with (h | ⟨o, h⟩) | h
  · exact .inl (.inl (S _ _ (.inl n) h))
  · exact .inl (.inr ⟨o, S _ _ (.inl n) h⟩)
  · exact .inr h
theorem But.sqT {K : PySem.W.Frag} {p : Addr} {H H' : Hp} {a : Addr} {xs : List V} (S : But p H H') (n : a ≠ p) (h : SqT K H a xs) : SqT K H' a xs := by
  rcases h with (h | ⟨o, h⟩) | h
  · exact .inl (.inl (S _ _ (.inl n) h))
  · exact .inl (.inr ⟨o, S _ _ (.inl n) h⟩)
  · exact .inr h
theorem same_sqT {K : PySem.W.Frag} {H H' : Hp} {a : Addr} {xs : List V} (S : Same H H') (h : SqT K H a xs) : SqT K H' a xs := by
  rcases h with (h | ⟨o, h⟩) | h
  · exact .inl (.inl (S _ _ h))
  · exact .inl (.inr ⟨o, S _ _ h⟩)
  · exact .inr h
/-- the law's script: locked, or of the written part -/
def Scr (K : PySem.W.Frag) (H : Hp) (a : Addr) (ns : List Int) : Prop := (∃ o, H a = some (.frz o (.lst (ns.map V.int)))) ∨
  ∃ (o : Obj) (its : Array Value) (n : Nat), K.lookup a = some o ∧ o.cls = .type "list" ∧ o.dict = none ∧ o.data = .seq its n ∧ its.size ≤ sizeLine ∧ Vals (ns.map V.int) its.toList
theorem Scr.of {K : PySem.W.Frag} {H : Hp} {a : Addr} {ns : List Int} (h0 : Only H) (h : SqL K H a (ns.map V.int)) : Scr K H a ns := by
  rcases h with (h | ⟨o, h⟩) | h
  · rcases h0 a with e | ⟨o, xs, e⟩
    · rw [h] at e; cases e
    · rw [h] at e; cases e
  · exact .inl ⟨o, h⟩
  · exact .inr h
theorem Scr.sq {K : PySem.W.Frag} {H : Hp} {a : Addr} {ns : List Int} (h : Scr K H a ns) : SqL K H a (ns.map V.int) := by
  rcases h with ⟨o, h⟩ | h
  · exact .inl (.inr ⟨o, h⟩)
  · exact .inr h
theorem Scr.but {K : PySem.W.Frag} {H H' : Hp} {p a : Addr} {ns : List Int} (S : But p H H') (h : Scr K H a ns) : Scr K H' a ns := by
  rcases h with ⟨o, h⟩ | h
  · exact .inl ⟨o, S _ _ (.inr trivial) h⟩
  · exact .inr h
theorem Scr.same {K : PySem.W.Frag} {H H' : Hp} {a : Addr} {ns : List Int} (S : Same H H') (h : Scr K H a ns) : Scr K H' a ns := by
  rcases h with ⟨o, h⟩ | h
  · exact .inl ⟨o, S _ _ h⟩
  · exact .inr h
/-- a change of what stands at p, the heap behind it by a name -/
theorem up_but {H : Hp} {p : Addr} {o u : HO} (h : H p = some u) (nf : ¬ Fz u) : But p H (L2.upd H p o) := (But.refl p H).up h nf
theorem c_setL {N1 : Hp → Prop} (n : Nat) (ys : List V) (h1 : H p = some (.lst xs)) (h2 : ixN xs.length i = some n) (h3 : xs.set n v = ys) (h : ∀ H', But p H H' → H' p = some (.lst ys) → N1 H') : rSetL (.ref p) (.int i) v H N1 :=
  s_setL h1 h2 (h _ (up_but h1 (fun z => z)) (by rw [h3]; exact upd_same))
theorem c_acc {D : Addr} {acc : List V} {P : Hp → Prop} (h1 : H D = some (.lst acc)) (h2 : acc.length < sizeLine) (h : ∀ H', But D H H' → H' D = some (.lst (acc ++ [y])) → P H') : zAcc D y H P :=
  s_acc h1 h2 (h _ (up_but h1 (fun z => z)) upd_same)
theorem passC {X : Cx} (σ : L2.St) : PassesAt (L2.CX X.prog X.w) X σ (WE (fun _ _ _ _ => False) σ) := fun pins H s e s' I c => passL pins σ H s e s' I c
theorem c_append (h1 : H p = some (.lst xs)) (h2 : xs.length < sizeLine) (h : ∀ H', But p H H' → H' p = some (.lst (xs ++ [v])) → Q .non H') : rAppend (.ref p) [v] H Q :=
  s_append h1 h2 (h _ (up_but h1 (fun z => z)) upd_same)
/-- a change of what wasn't there at first -/
theorem But.own {p l : Addr} {H H1 H2 : Hp} (a : But p H H1) (b : But l H1 H2) (hl : H l = Option.none) : But p H H2 := fun c o n h => b c o (.inl (ne_of_none h hl)) (a c o n h)
theorem same_own {l : Addr} {H H1 H2 : Hp} (a : Same H H1) (b : But l H1 H2) (hl : H l = Option.none) : Same H H2 := fun c o h => b c o (.inl (ne_of_none h hl)) (a c o h)
/-- tuples stay -/
def TupS (H H' : Hp) : Prop := ∀ b ys, H b = some (.tup ys) → H' b = some (.tup ys)
theorem TupS.refl (H : Hp) : TupS H H := fun _ _ h => h
theorem TupS.trans {H H1 H2 : Hp} (a : TupS H H1) (b : TupS H1 H2) : TupS H H2 := fun c o h => b c o (a c o h)
theorem TupS.new {q : Addr} {H : Hp} {o : HO} (hq : H q = none) : TupS H (L2.upd H q o) := fun b ys h => same_new hq b _ h
theorem TupS.of {H H' : Hp} (S : Same H H') : TupS H H' := fun b _ h => S b _ h
theorem TupS.but {p : Addr} {H H' : Hp} {o : HO} (S : But p H H') (hp : H p = some o) (n : ∀ ys, o ≠ .tup ys) : TupS H H' := fun b ys h => S b _ (.inl fun e => by
  subst e
  rw [hp] at h
  exact n ys (Option.some.inj h)) h
theorem TupS.butN {p : Addr} {H H' : Hp} (S : But p H H') (hp : H p = none) : TupS H H' := fun b ys h => S b _ (.inl fun e => by
  subst e
  rw [hp] at h
  cases h) h
/-- an item of a list of ints, at an open place within -/
theorem at_ints (ns : List Int) {i : Int} (h0 : 0 ≤ i) (h1 : i < ns.length) : ∃ w, w ∈ ns ∧ atI (ns.map V.int) i = some (.int w) := by
  refine ⟨ns[i.toNat]'(by omega), List.getElem_mem _, ?_⟩
  exact at_of (j := i.toNat) (by omega) (by rw [List.getElem?_map, List.getElem?_eq_getElem (by omega)]; rfl)
theorem putK_len {kvs : List (Key × V)} {k : Key} {v w : V} (h : valV kvs k = some w) : (putK kvs k v).length = kvs.length := by
  unfold putK
  rw [valV_any, h]
  simp
theorem valV_put_ne {kvs : List (Key × V)} {k j : Key} {v : V} (h : ¬ j = k) : valV (putK kvs k v) j = valV kvs j := by rw [valV_put, if_neg h]
theorem valV_put_eq {kvs : List (Key × V)} {k : Key} {v : V} : valV (putK kvs k v) k = some v := by rw [valV_put, if_pos rfl]
theorem c_dput_s {z : Str} {kvs : List (Key × V)} {N1 : Hp → Prop} (h1 : H p = some (.dK kvs)) (h2 : kvs.length < sizeLine) (h : ∀ H', But p H H' → H' p = some (.dK (putK kvs (Sum.inr z : Key) v)) → N1 H') : zDPut (.ref p) (.str z) v H N1 :=
  s_zDPut_s h1 h2 (h _ (up_but h1 (fun z => z)) upd_same)
theorem fdiv_abs (a b : Int) : (a.fdiv b).natAbs ≤ a.natAbs + 1 := Nat.le_succ_of_le (Int.natAbs_fdiv_le_natAbs a b)
/-! ### data: laid at most so deep -/
structure Sh (n : Nat) (d : PyData) : Prop where
  c : d.canLay0 = true
  d : d.depth ≤ n
theorem Sh.shaped {n : Nat} {d : PyData} (h : Sh n d) (hn : n ≤ 64) : SeqAt.shaped d = true := by
  unfold SeqAt.shaped
  rw [h.c, decide_eq_true (Nat.le_trans h.d hn)]
  rfl
theorem Sh.mono {n m : Nat} {d : PyData} (h : Sh n d) (hn : n ≤ m) : Sh m d := ⟨h.c, Nat.le_trans h.d hn⟩
theorem Sh.int {n : Nat} (i : Int) : Sh n (.int i) := ⟨rfl, Nat.zero_le _⟩
theorem Sh.non {n : Nat} : Sh n .none := ⟨rfl, Nat.zero_le _⟩
theorem Sh.bl {n : Nat} (b : Bool) : Sh n (.bool b) := ⟨rfl, Nat.zero_le _⟩
theorem Sh.str {n : Nat} {x : Str} (h : PyData.strOk x = true) : Sh n (.str x) := ⟨h, Nat.zero_le _⟩
theorem sh_all {n : Nat} : ∀ {ds : List PyData}, (∀ d ∈ ds, Sh n d) → PyData.canLayAll0 ds = true ∧ PyData.depthAll ds ≤ n
  | [], _ => ⟨rfl, Nat.zero_le _⟩
  | d :: ds, h => by
    have a := h d List.mem_cons_self
    have b := sh_all (ds := ds) fun e he => h e (List.mem_cons_of_mem _ he)
    refine ⟨?_, ?_⟩
    · show (d.canLay0 && PyData.canLayAll0 ds) = true
      rw [a.c, b.1]; rfl
    · show max d.depth (PyData.depthAll ds) ≤ n
      exact Nat.max_le.mpr ⟨a.d, b.2⟩
theorem Sh.list {n : Nat} {ds : List PyData} (h : ∀ d ∈ ds, Sh n d) : Sh (n + 1) (.list ds) := by
  have a := sh_all h
  refine ⟨?_, ?_⟩
  · show PyData.canLayAll0 ds = true
    exact a.1
  · show PyData.depthAll ds + 1 ≤ n + 1
    exact Nat.succ_le_succ a.2
theorem Sh.tup {n : Nat} {ds : List PyData} (h : ∀ d ∈ ds, Sh n d) : Sh (n + 1) (.tuple ds) := by
  have a := sh_all h
  refine ⟨?_, ?_⟩
  · show PyData.canLayAll0 ds = true
    exact a.1
  · show PyData.depthAll ds + 1 ≤ n + 1
    exact Nat.succ_le_succ a.2
theorem Sh.refl {n : Nat} {d : PyData} (h : Sh n d) : PyData.eqv d d = true := SeqAt.eqv_refl d h.c
theorem dp_ints {K : PySem.W.Frag} {H : Hp} : ∀ ns : List Int, DpAll K H (ns.map V.int) (ns.map PyData.int)
  | [] => .nil
  | _ :: ns => .cons (.int _) (dp_ints ns)
theorem sh_ints {n : Nat} (ns : List Int) : ∀ d ∈ ns.map PyData.int, Sh n d := fun d h => by
  obtain ⟨i, _, rfl⟩ := List.mem_map.mp h
  exact Sh.int i
/-- a promise that asks what never holds -/
theorem fn_none {P : Program} {w : World} {K : PySem.W.Frag} {mg : Str → Option Value} {base : Heap} {CX : CXT} {k : Nat} {f : Addr} {fd : FuncData} {ps : List Str} {sp : Sp} (h : ∀ vs H Q E, ¬ sp vs H Q E) : FnOk P w K mg base CX k f fd ps sp :=
  ⟨fun vs H Q E z => absurd z (h vs H Q E), fun A outer s H args us vs Q E _ _ _ _ z => absurd z (h vs H Q E)⟩
/-! ### specs by the number of arguments -/
def Sp0 (f : Hp → VK → XK → Prop) : Sp := fun vs H Q E => vs = [] ∧ f H Q E
def Sp1 (f : V → Hp → VK → XK → Prop) : Sp := fun vs H Q E => ∃ a, vs = [a] ∧ f a H Q E
def Sp2 (f : V → V → Hp → VK → XK → Prop) : Sp := fun vs H Q E => ∃ a b, vs = [a, b] ∧ f a b H Q E
def Sp3 (f : V → V → V → Hp → VK → XK → Prop) : Sp := fun vs H Q E => ∃ a b c, vs = [a, b, c] ∧ f a b c H Q E
def Sp4 (f : V → V → V → V → Hp → VK → XK → Prop) : Sp := fun vs H Q E => ∃ a b c d, vs = [a, b, c, d] ∧ f a b c d H Q E
def Sp5 (f : V → V → V → V → V → Hp → VK → XK → Prop) : Sp := fun vs H Q E => ∃ a b c d e, vs = [a, b, c, d, e] ∧ f a b c d e H Q E
end
end Z
/-! ### the steps, tried in turn -/
local macro_rules | `(tactic| walk_at "hp") => `(tactic| first
  | with_reducible assumption
  | with_reducible exact upd_same
  | ((with_reducible refine' Z.up_new ?zn ?zq); (case zn => with_reducible assumption); case zq => walk_at "hp")
  | ((with_reducible refine' Z.up_far ?zn ?zq); (case zn => walk_at "ne"); case zq => walk_at "hp")
  | ((with_reducible refine' Z.sm_rd ?zn ?zq); (case zn => with_reducible assumption); case zq => walk_at "hp")
  | ((with_reducible refine' Z.But.rd ?zn ?zm ?zq); (case zn => with_reducible assumption); (case zm => walk_at "ne"); case zq => walk_at "hp"))
local macro_rules | `(tactic| walk_at "ne") => `(tactic| first
  | with_reducible assumption
  | ((with_reducible refine' Ne.symm ?_); with_reducible assumption)
  | ((with_reducible refine' L2.ne_of_none ?zn ?zm); (case zn => with_reducible assumption); case zm => with_reducible assumption)
  | ((with_reducible refine' Ne.symm (L2.ne_of_none ?zn ?zm)); (case zn => with_reducible assumption); case zm => with_reducible assumption))
local macro_rules | `(tactic| walk_at "sq") => `(tactic| first
  | with_reducible assumption
  | ((with_reducible refine' L2.SqL.of ?zq); case zq => walk_at "hp")
  | ((with_reducible refine' L2.SqT.of ?zq); case zq => walk_at "hp")
  | ((with_reducible refine' L2.Same.seq ?zn ?zq); (case zn => with_reducible assumption); case zq => walk_at "sq")
  | ((with_reducible refine' Z.same_sqT ?zn ?zq); (case zn => with_reducible assumption); case zq => walk_at "sq")
  | ((with_reducible refine' Z.But.sqL ?zn ?zm ?zq); (case zn => with_reducible assumption); (case zm => walk_at "ne"); case zq => walk_at "sq")
  | ((with_reducible refine' Z.But.sqT ?zn ?zm ?zq); (case zn => with_reducible assumption); (case zm => walk_at "ne"); case zq => walk_at "sq"))
local macro_rules | `(tactic| walk_at "fit") => `(tactic| first
  | (refine Nat.le_of_ble_eq_true ?_; rfl) | omega)
local macro_rules | `(tactic| walk_at "s") => `(tactic| first
  | with_reducible refine Z.s_seq ?_
  | with_reducible refine Z.s_set ?_
  | ((with_reducible refine' Z.s_var ?zh ?_); case zh => exact rfl)
  | with_reducible refine Z.s_c ?_
  | with_reducible refine Z.s_op ?_
  | with_reducible refine Z.s_cons ?_
  | with_reducible refine Z.s_nil ?_
  | with_reducible refine Z.s_cb ?_
  | with_reducible refine Z.s_callS ?_
  | with_reducible refine Z.s_rI0 ?_
  | with_reducible refine Z.s_add_i ?_
  | with_reducible refine Z.s_test ?_
  | with_reducible refine Z.s_zB ?_
  | with_reducible refine Z.s_if ?_
  | with_reducible refine Z.s_ret ?_
  | with_reducible refine Z.s_next ?_
  | with_reducible refine Z.s_drop ?_
  | with_reducible refine Z.s_eq_i ?_
  | with_reducible refine Z.s_ne_i ?_
  | with_reducible refine Z.s_eq_s ?_
  | with_reducible refine Z.s_ne_s ?_
  | with_reducible refine Z.s_and ?_
  | with_reducible refine Z.s_or ?_
  | with_reducible refine Z.s_not ?_
  | with_reducible refine Z.s_chain ?_
  | with_reducible refine Z.s_B ?_
  | with_reducible refine Z.s_tup ?_
  | with_reducible refine Z.s_lst ?_
  | ((with_reducible refine' Z.s_ztup ?zh ?_); case zh => exact rfl)
  | ((with_reducible refine' Z.s_zlst ?zh ?_); case zh => exact rfl)
  | with_reducible refine Z.s_un ?_
  | with_reducible refine Z.s_rU ?_
  | with_reducible refine Z.s_p18 ?_
  | with_reducible refine Z.s_min2 ?_
  | with_reducible refine Z.s_max2 ?_
  | with_reducible refine Z.s_abs ?_
  | with_reducible refine Z.s_int1 ?_
  | with_reducible refine Z.s_int1b ?_
  | with_reducible refine Z.s_bm ?_
  | with_reducible refine Z.s_bm0 ?_
  | with_reducible refine Z.s_fld ?_
  | with_reducible refine Z.s_dget ?_
  | with_reducible refine Z.s_din ?_
  | with_reducible refine Z.s_dnotin ?_
  | with_reducible refine Z.s_dnew ?_
  | with_reducible refine Z.s_dput ?_
  | with_reducible refine Z.s_disp ?_
  | with_reducible refine Z.s_asg ?_
  | with_reducible refine Z.s_gname ?_
  | with_reducible refine Z.s_gsub ?_
  | with_reducible refine Z.s_gcons ?_
  | with_reducible refine Z.s_gnil ?_
  | with_reducible refine Z.s_for ?_
  | with_reducible refine Z.s_rng1 ?_
  | with_reducible refine Z.s_rng2 ?_
  | with_reducible refine Z.s_itl ?_
  | with_reducible refine Z.s_itt ?_
  | with_reducible refine Z.s_isN_i ?_
  | with_reducible refine Z.s_isN_r ?_
  | with_reducible refine Z.s_isN_s ?_
  | with_reducible refine Z.s_isN_n ?_
  | with_reducible refine Z.s_notN_i ?_
  | with_reducible refine Z.s_notN_r ?_
  | with_reducible refine Z.s_notN_s ?_
  | with_reducible refine Z.s_notN_n ?_
  | with_reducible refine Z.s_slL ?_
  | with_reducible refine Z.s_nopart ?_
  | with_reducible refine Z.s_part ?_
  | with_reducible refine Z.s_zpart ?_
  | ((with_reducible refine' Z.s_cutL ?zh ?_); case zh => walk_at "sq")
  | with_reducible refine Z.s_ift ?_
  | with_reducible refine Z.s_iff ?_
  | with_reducible refine Z.s_nt ?_
  | with_reducible refine Z.s_nf ?_
  | with_reducible refine Z.s_zbody ?_
  | with_reducible refine Z.s_lc ?_
  | with_reducible refine Z.s_yes ?_
  | ((with_reducible refine Z.s_wipe ?zh ?_); case zh => rfl)
  | ((with_reducible refine' Z.s_zitl ?zh ?_); case zh => walk_at "sq")
  | ((with_reducible refine' Z.s_zitt ?zh ?_); case zh => walk_at "sq")
  | with_reducible refine Z.s_ifE ?_
  | with_reducible refine Z.s_andV ?_
  | with_reducible refine Z.s_orV ?_
  | with_reducible refine Z.s_notV ?_
  | with_reducible refine Z.s_retN ?_
  | with_reducible refine Z.s_break ?_
  | with_reducible refine Z.s_cont ?_
  | ((with_reducible refine Z.s_zrng1 ?zh ?_); case zh => omega)
  | ((with_reducible refine Z.s_zrng2 ?zh ?_); case zh => omega)
  | ((with_reducible refine Z.s_modp ?zh ?_); case zh => omega)
  | ((with_reducible refine Z.s_fdvp ?zh ?_); case zh => omega)
  | ((with_reducible refine Z.s_mulp ?zh ?_); case zh => omega)
  | ((with_reducible refine' Z.s_len_l ?zh ?_); case zh => walk_at "sq")
  | ((with_reducible refine' Z.s_len_t ?zh ?_); case zh => walk_at "sq")
  | ((with_reducible refine' Z.s_zTyL ?zh ?_); case zh => walk_at "hp")
  | ((with_reducible refine' Z.s_listof_l ?zh ?_); case zh => walk_at "sq")
  | ((with_reducible refine' Z.s_listof_t ?zh ?_); case zh => walk_at "sq")
  | ((with_reducible refine' Z.s_tupof_l ?zh ?_); case zh => walk_at "sq")
  | ((with_reducible refine' Z.s_tupof_t ?zh ?_); case zh => walk_at "sq")
  | ((with_reducible refine' Z.s_gun_t ?zh ?zl ?_); (case zh => walk_at "sq"); case zl => rfl)
  | ((with_reducible refine' Z.s_gun_l ?zh ?zl ?_); (case zh => walk_at "sq"); case zl => rfl))
local macro_rules | `(tactic| walk_at "zz") => `(tactic| repeat (walk_at "s"))
namespace My
open PySem L2 Z

def top (i : Nat) : Stmt := PySem.Challenge.pw_ownchain_k34_values_that_are_fixed.main.body.getD i (.Pass ⟨0, 0, 0, 0⟩)
abbrev st_summed : Stmt := top 12
abbrev nm_summed : List Str := ["kind", "one", "other", "found"]
abbrev st_parted_by : Stmt := top 13
abbrev nm_parted_by : List Str := ["kind", "one", "other"]
abbrev st_of_numbers : Stmt := top 14
abbrev nm_of_numbers : List Str := ["kind", "values", "one", "other"]
abbrev st_of_row : Stmt := top 15
abbrev nm_of_row : List Str := ["kind", "values", "row"]
abbrev st_worth : Stmt := top 16
abbrev nm_worth : List Str := ["kind", "values", "rows"]
abbrev st_fixed : Stmt := top 21
abbrev nm_fixed : List Str := ["node", "kind", "place", "numbers", "parts", "values", "part", "fault", "value"]
abbrev st_Lcell : Stmt := top 23
abbrev nm_Lcell : List Str := ["_law_script", "_law_k"]
abbrev st_Ltake : Stmt := top 24
abbrev nm_Ltake : List Str := ["_law_state", "_law_most", "_law_script", "_law_at", "_law_left", "_law_cell_here", "_law_number_here"]
abbrev st_Lnumber : Stmt := top 25
abbrev nm_Lnumber : List Str := ["_law_state", "_law_way", "_law_great"]
abbrev st_Lleaf : Stmt := top 26
abbrev nm_Lleaf : List Str := ["_law_state"]
abbrev st_Lother : Stmt := top 27
abbrev nm_Lother : List Str := ["_law_state", "_law_kind", "_law_many", "_law_numbers", ".0", "_law_k"]
abbrev st_Lnode : Stmt := top 28
abbrev nm_Lnode : List Str := ["_law_state", "_law_deep", "_law_kind"]
abbrev st_Lworked : Stmt := top 29
abbrev nm_Lworked : List Str := ["_law_kind", "_law_one", "_law_other_here", "_law_found"]
abbrev st_Ldue : Stmt := top 30
abbrev nm_Ldue : List Str := ["_law_node_here", "_law_kind", "_law_place", "_law_numbers", "_law_parts", "_law_one", "_law_other_here"]
abbrev st_law : Stmt := top 31
abbrev nm_law : List Str := ["_law_script", "_law_state", "_law_turn", "_law_node_here", "_law_right", "_law_again", "_law_found", "_law_other_here"]
/-- where the top's things stand -/
structure Adr where
  K : PySem.W.Frag
  mg : Str → Option Value
  t_ADD_deeds : Tok
  t_SUB : Tok
  t_MUL : Tok
  t_QUO : Tok
  t_REST : Tok
  t_LESS : Tok
  t_SAME_deeds : Tok
  t_PUSH : Tok
  t_AT : Tok
  t_SIZE : Tok
  t_MOST_FIGURES : Tok
  t_NUMBER : Tok
  t_ADD_kinds : Tok
  t_SAME_kinds : Tok
  f_summed : Addr
  d_summed : FuncData
  f_parted_by : Addr
  d_parted_by : FuncData
  f_of_numbers : Addr
  d_of_numbers : FuncData
  f_of_row : Addr
  d_of_row : FuncData
  f_worth : Addr
  d_worth : FuncData
  f_fixed : Addr
  d_fixed : FuncData
  f_Lcell : Addr
  d_Lcell : FuncData
  f_Ltake : Addr
  d_Ltake : FuncData
  f_Lnumber : Addr
  d_Lnumber : FuncData
  f_Lleaf : Addr
  d_Lleaf : FuncData
  f_Lother : Addr
  d_Lother : FuncData
  f_Lnode : Addr
  d_Lnode : FuncData
  f_Lworked : Addr
  d_Lworked : FuncData
  f_Ldue : Addr
  d_Ldue : FuncData
  f_law : Addr
  d_law : FuncData
/-- what is known of them -/
structure Top (Z : Adr) : Prop where
  g_ADD_deeds : Z.mg "ADD_deeds" = some (.int 8 Z.t_ADD_deeds)
  g_SUB : Z.mg "SUB" = some (.int 9 Z.t_SUB)
  g_MUL : Z.mg "MUL" = some (.int 10 Z.t_MUL)
  g_QUO : Z.mg "QUO" = some (.int 11 Z.t_QUO)
  g_REST : Z.mg "REST" = some (.int 12 Z.t_REST)
  g_LESS : Z.mg "LESS" = some (.int 13 Z.t_LESS)
  g_SAME_deeds : Z.mg "SAME_deeds" = some (.int 14 Z.t_SAME_deeds)
  g_PUSH : Z.mg "PUSH" = some (.int 15 Z.t_PUSH)
  g_AT : Z.mg "AT" = some (.int 16 Z.t_AT)
  g_SIZE : Z.mg "SIZE" = some (.int 18 Z.t_SIZE)
  g_MOST_FIGURES : Z.mg "MOST_FIGURES" = some (.int 100 Z.t_MOST_FIGURES)
  g_NUMBER : Z.mg "NUMBER" = some (.int 0 Z.t_NUMBER)
  g_ADD_kinds : Z.mg "ADD_kinds" = some (.int 8 Z.t_ADD_kinds)
  g_SAME_kinds : Z.mg "SAME_kinds" = some (.int 14 Z.t_SAME_kinds)
  n_abs : Z.mg "abs" = none
  n_bool : Z.mg "bool" = none
  n_int : Z.mg "int" = none
  n_isinstance : Z.mg "isinstance" = none
  n_len : Z.mg "len" = none
  n_range : Z.mg "range" = none
  n_str : Z.mg "str" = none
  n_tuple : Z.mg "tuple" = none
  F_summed : Fun Z.K "summed" "summed" st_summed Z.f_summed Z.d_summed
  m_summed : Z.mg "summed" = some (.ref Z.f_summed)
  b_summed : Binds Z.K Z.d_summed ["kind", "one", "other"] []
  F_parted_by : Fun Z.K "parted_by" "parted_by" st_parted_by Z.f_parted_by Z.d_parted_by
  m_parted_by : Z.mg "parted_by" = some (.ref Z.f_parted_by)
  b_parted_by : Binds Z.K Z.d_parted_by ["kind", "one", "other"] []
  F_of_numbers : Fun Z.K "of_numbers" "of_numbers" st_of_numbers Z.f_of_numbers Z.d_of_numbers
  m_of_numbers : Z.mg "of_numbers" = some (.ref Z.f_of_numbers)
  b_of_numbers : Binds Z.K Z.d_of_numbers ["kind", "values"] []
  F_of_row : Fun Z.K "of_row" "of_row" st_of_row Z.f_of_row Z.d_of_row
  m_of_row : Z.mg "of_row" = some (.ref Z.f_of_row)
  b_of_row : Binds Z.K Z.d_of_row ["kind", "values", "row"] []
  F_worth : Fun Z.K "worth" "worth" st_worth Z.f_worth Z.d_worth
  m_worth : Z.mg "worth" = some (.ref Z.f_worth)
  b_worth : Binds Z.K Z.d_worth ["kind", "values", "rows"] []
  F_fixed : Fun Z.K "fixed" "fixed" st_fixed Z.f_fixed Z.d_fixed
  m_fixed : Z.mg "fixed" = some (.ref Z.f_fixed)
  b_fixed : Binds Z.K Z.d_fixed ["node"] []
  F_Lcell : Fun Z.K "_law_cell" "_law_cell" st_Lcell Z.f_Lcell Z.d_Lcell
  m_Lcell : Z.mg "_law_cell" = some (.ref Z.f_Lcell)
  b_Lcell : Binds Z.K Z.d_Lcell ["_law_script", "_law_k"] []
  F_Ltake : Fun Z.K "_law_take" "_law_take" st_Ltake Z.f_Ltake Z.d_Ltake
  m_Ltake : Z.mg "_law_take" = some (.ref Z.f_Ltake)
  b_Ltake : Binds Z.K Z.d_Ltake ["_law_state", "_law_most"] []
  F_Lnumber : Fun Z.K "_law_number" "_law_number" st_Lnumber Z.f_Lnumber Z.d_Lnumber
  m_Lnumber : Z.mg "_law_number" = some (.ref Z.f_Lnumber)
  b_Lnumber : Binds Z.K Z.d_Lnumber ["_law_state"] []
  F_Lleaf : Fun Z.K "_law_leaf" "_law_leaf" st_Lleaf Z.f_Lleaf Z.d_Lleaf
  m_Lleaf : Z.mg "_law_leaf" = some (.ref Z.f_Lleaf)
  b_Lleaf : Binds Z.K Z.d_Lleaf ["_law_state"] []
  F_Lother : Fun Z.K "_law_other" "_law_other" st_Lother Z.f_Lother Z.d_Lother
  m_Lother : Z.mg "_law_other" = some (.ref Z.f_Lother)
  b_Lother : Binds Z.K Z.d_Lother ["_law_state"] []
  F_Lnode : Fun Z.K "_law_node" "_law_node" st_Lnode Z.f_Lnode Z.d_Lnode
  m_Lnode : Z.mg "_law_node" = some (.ref Z.f_Lnode)
  b_Lnode : Binds Z.K Z.d_Lnode ["_law_state", "_law_deep"] []
  F_Lworked : Fun Z.K "_law_worked" "_law_worked" st_Lworked Z.f_Lworked Z.d_Lworked
  m_Lworked : Z.mg "_law_worked" = some (.ref Z.f_Lworked)
  b_Lworked : Binds Z.K Z.d_Lworked ["_law_kind", "_law_one", "_law_other_here"] []
  F_Ldue : Fun Z.K "_law_due" "_law_due" st_Ldue Z.f_Ldue Z.d_Ldue
  m_Ldue : Z.mg "_law_due" = some (.ref Z.f_Ldue)
  b_Ldue : Binds Z.K Z.d_Ldue ["_law_node_here"] []
  F_law : Fun Z.K "law" "law" st_law Z.f_law Z.d_law
  m_law : Z.mg "law" = some (.ref Z.f_law)
  b_law : Binds Z.K Z.d_law ["_law_script"] []
theorem Top.k_all {Z : Adr} (_ : Top Z) : True := trivial
theorem Top.k_summed {Z : Adr} (T : Top Z) : PySem.W.keepIn Z.K (.ref Z.f_summed) = true := T.F_summed.kp
theorem Top.k_parted_by {Z : Adr} (T : Top Z) : PySem.W.keepIn Z.K (.ref Z.f_parted_by) = true := T.F_parted_by.kp
theorem Top.k_of_numbers {Z : Adr} (T : Top Z) : PySem.W.keepIn Z.K (.ref Z.f_of_numbers) = true := T.F_of_numbers.kp
theorem Top.k_of_row {Z : Adr} (T : Top Z) : PySem.W.keepIn Z.K (.ref Z.f_of_row) = true := T.F_of_row.kp
theorem Top.k_worth {Z : Adr} (T : Top Z) : PySem.W.keepIn Z.K (.ref Z.f_worth) = true := T.F_worth.kp
theorem Top.k_fixed {Z : Adr} (T : Top Z) : PySem.W.keepIn Z.K (.ref Z.f_fixed) = true := T.F_fixed.kp
theorem Top.k_Lcell {Z : Adr} (T : Top Z) : PySem.W.keepIn Z.K (.ref Z.f_Lcell) = true := T.F_Lcell.kp
theorem Top.k_Ltake {Z : Adr} (T : Top Z) : PySem.W.keepIn Z.K (.ref Z.f_Ltake) = true := T.F_Ltake.kp
theorem Top.k_Lnumber {Z : Adr} (T : Top Z) : PySem.W.keepIn Z.K (.ref Z.f_Lnumber) = true := T.F_Lnumber.kp
theorem Top.k_Lleaf {Z : Adr} (T : Top Z) : PySem.W.keepIn Z.K (.ref Z.f_Lleaf) = true := T.F_Lleaf.kp
theorem Top.k_Lother {Z : Adr} (T : Top Z) : PySem.W.keepIn Z.K (.ref Z.f_Lother) = true := T.F_Lother.kp
theorem Top.k_Lnode {Z : Adr} (T : Top Z) : PySem.W.keepIn Z.K (.ref Z.f_Lnode) = true := T.F_Lnode.kp
theorem Top.k_Lworked {Z : Adr} (T : Top Z) : PySem.W.keepIn Z.K (.ref Z.f_Lworked) = true := T.F_Lworked.kp
theorem Top.k_Ldue {Z : Adr} (T : Top Z) : PySem.W.keepIn Z.K (.ref Z.f_Ldue) = true := T.F_Ldue.kp
theorem Top.k_law {Z : Adr} (T : Top Z) : PySem.W.keepIn Z.K (.ref Z.f_law) = true := T.F_law.kp
/-! ### deeds: what two numbers, a row, the rows come to -/
inductive Wo where
  | ok (v : Int)
  | flt (s : Str)
def Wo.vs : Wo → List V
  | .ok v => [.non, .int v]
  | .flt s => [.str s, .int 0]
def Fig (x : Int) : Prop := x.natAbs < 10 ^ 100
def sumW (k a b : Int) : Wo :=
  if (if k = 8 then a + b else if k = 9 then a - b else a * b).natAbs < 10 ^ 100 then .ok (if k = 8 then a + b else if k = 9 then a - b else a * b) else .flt "great"
def quoW (k a b : Int) : Wo := if b = 0 then .flt "zero" else if k = 11 then .ok (a.fdiv b) else .ok (a.fmod b)
def numW (k a b : Int) : Wo := if k = 8 ∨ k = 9 ∨ k = 10 then sumW k a b else if k = 11 ∨ k = 12 then quoW k a b else if k = 13 then .ok (if a < b then 1 else 0) else .ok (if a = b then 1 else 0)
def woD : Wo → PyData
  | .ok v => .tuple [.none, .int v]
  | .flt s => .tuple [.str s, .int 0]
theorem woD_dp {K : PySem.W.Frag} {H : Hp} {t : Addr} : ∀ {w : Wo}, H t = some (.tup w.vs) → Dp K H (.ref t) (woD w)
  | .ok _, h => .tup (SqT.of h) (.cons .non (.cons (.int _) .nil))
  | .flt _, h => .tup (SqT.of h) (.cons (.str _) (.cons (.int _) .nil))
def Wo.fine : Wo → Prop
  | .ok _ => True
  | .flt s => PyData.strOk s = true
theorem woD_sh : ∀ {w : Wo}, w.fine → Sh 1 (woD w)
  | .ok _, _ => Sh.tup fun d h => by
    rcases List.mem_cons.mp h with rfl | h
    · exact Sh.non
    · cases List.mem_singleton.mp h; exact Sh.int _
  | .flt _, hs => Sh.tup fun d h => by
    rcases List.mem_cons.mp h with rfl | h
    · exact Sh.str hs
    · cases List.mem_singleton.mp h; exact Sh.int _
theorem numW_fine (k a b : Int) : (numW k a b).fine := by
  unfold numW sumW quoW
  repeat' split
  all_goals first | trivial | (show PyData.strOk _ = true; decide +kernel)
theorem fig_log {x : Int} (h : Fig x) : x.natAbs.log2 < 400 := PySem.Flt.log2_lt_of (by decide) (Nat.lt_of_lt_of_le h (by decide +kernel))
theorem fig_mul {a b : Int} (ha : Fig a) (hb : Fig b) : CMulW a b := by
  have h1 := fig_log ha
  have h2 := fig_log hb
  unfold CMulW
  omega
theorem len_digits (z : Int) : ((Str.ofString (toString (if z < 0 then -z else z)) : Str).length : Int) ≤ 100 ↔ z.natAbs < 10 ^ 100 := by
  have e : (if z < 0 then -z else z) = ((z.natAbs : Nat) : Int) := by split <;> omega
  rw [e]
  have s := PySem.W.KIN.signs_num z.natAbs
  have l : (Str.ofString (toString ((z.natAbs : Nat) : Int)) : Str).length = (Nat.toDigits 10 z.natAbs).length := by
    have := congrArg List.length s
    rw [List.length_map] at this
    exact this
  rw [l]
  have := Nat.length_toDigits_le_iff (b := 10) (n := z.natAbs) (k := 100) (by decide) (by decide)
  omega
def q_summed (Z : Adr) (k x y : V) (H : Hp) (Q : VK) (E : XK) : Prop := ∃ i a b : Int, k = .int i ∧ x = .int a ∧ y = .int b ∧ Fig a ∧ Fig b ∧ ∀ t, H t = none → Q (.ref t) (upd H t (.tup (sumW i a b).vs))
def q_parted_by (Z : Adr) (k x y : V) (H : Hp) (Q : VK) (E : XK) : Prop := ∃ i a b : Int, k = .int i ∧ x = .int a ∧ y = .int b ∧ Fig a ∧ Fig b ∧ ∀ t, H t = none → Q (.ref t) (upd H t (.tup (quoW i a b).vs))
def q_of_numbers (Z : Adr) (k l : V) (H : Hp) (Q : VK) (E : XK) : Prop := ∃ (i a b : Int) (lv : Addr), k = .int i ∧ l = .ref lv ∧ H lv = some (.lst [.int a, .int b]) ∧ Fig a ∧ Fig b ∧
  ∀ t H', Same H H' → H t = none → H' t = some (.tup (numW i a b).vs) → Q (.ref t) H'
/-- what a row comes to by a kind from 15 to 18 -/
def rowW (k : Int) (vs row : List Int) : Wo × List Int :=
  if k = 18 then (.ok row.length, row)
  else if k = 15 then (.ok (vs.getD 1 0), row ++ [vs.getD 1 0])
  else if 0 ≤ vs.getD 1 0 ∧ vs.getD 1 0 < row.length then
    if k = 16 then (.ok (row.getD (vs.getD 1 0).toNat 0), row) else (.ok (vs.getD 2 0), row.set (vs.getD 1 0).toNat (vs.getD 2 0))
  else (.flt "place", row)
def rowsW (k : Int) (vs : List Int) (cs : List (List Int)) : Wo × List (List Int) :=
  if k = 19 then (.ok cs.length, cs ++ [[]])
  else if 0 ≤ vs.getD 0 0 ∧ vs.getD 0 0 < cs.length then
    ((rowW k vs (cs.getD (vs.getD 0 0).toNat [])).1, cs.set (vs.getD 0 0).toNat (rowW k vs (cs.getD (vs.getD 0 0).toNat [])).2)
  else (.flt "row", cs)
/-- rows as they lie -/
structure HeapAt (H : Hp) (lr : Addr) (as : List Addr) (cs : List (List Int)) : Prop where
  top : H lr = some (.lst (as.map V.ref))
  row : ∀ (i : Nat) (a : Addr), as[i]? = some a → ∃ c, cs[i]? = some c ∧ H a = some (.lst (c.map V.int))
  len : as.length = cs.length
  nd : as.Nodup
  ne : lr ∉ as
/-- all but some rows is as it was -/
def Fr (lr : Addr) (as : List Addr) (H H' : Hp) : Prop := ∀ b o, ((b ≠ lr ∧ b ∉ as) ∨ Fz o) → H b = some o → H' b = some o
theorem HeapAt.free {H : Hp} {lr q : Addr} {as : List Addr} {cs : List (List Int)} (h : HeapAt H lr as cs) (hq : H q = none) : q ≠ lr ∧ q ∉ as := by
  refine ⟨(ne_of_none h.top hq).symm, fun z => ?_⟩
  obtain ⟨j, hj⟩ := List.mem_iff_getElem?.mp z
  obtain ⟨c, _, e⟩ := h.row j q hj
  rw [hq] at e; cases e
theorem HeapAt.keep {H H' : Hp} {lr : Addr} {as : List Addr} {cs : List (List Int)} (h : HeapAt H lr as cs) (k : ∀ b xs, (b = lr ∨ b ∈ as) → H b = some (.lst xs) → H' b = some (.lst xs)) : HeapAt H' lr as cs :=
  ⟨k _ _ (.inl rfl) h.top, fun i a hi => by
    obtain ⟨c, e1, e2⟩ := h.row i a hi
    exact ⟨c, e1, k _ _ (.inr (List.mem_of_getElem? hi)) e2⟩, h.len, h.nd, h.ne⟩
theorem HeapAt.same {H H' : Hp} {lr : Addr} {as : List Addr} {cs : List (List Int)} (h : HeapAt H lr as cs) (S : Same H H') : HeapAt H' lr as cs := h.keep fun b _ _ e => S b _ e
theorem HeapAt.but {H H' : Hp} {p lr : Addr} {as : List Addr} {cs : List (List Int)} (h : HeapAt H lr as cs) (B : But p H H') (n1 : p ≠ lr) (n2 : p ∉ as) : HeapAt H' lr as cs :=
  h.keep fun b xs z e => B b (.lst xs) (Or.inl fun w => by
    subst w
    rcases z with z | z
    · exact n1 z
    · exact n2 z) e
/-- p is no row: something else stands there -/
theorem HeapAt.other {H : Hp} {p lr : Addr} {as : List Addr} {cs : List (List Int)} {o : HO} (h : HeapAt H lr as cs) (hp : H p = some o) (no : ∀ xs, o ≠ .lst xs) : p ≠ lr ∧ p ∉ as := by
  refine ⟨fun e => no _ (by rw [e, h.top] at hp; exact (Option.some.inj hp).symm), fun z => ?_⟩
  obtain ⟨j, hj⟩ := List.mem_iff_getElem?.mp z
  obtain ⟨c, _, e⟩ := h.row j p hj
  rw [hp] at e
  exact no _ (Option.some.inj e)
theorem HeapAt.fr {H H' : Hp} {lr lm : Addr} {as bs : List Addr} {cs : List (List Int)} (h : HeapAt H lr as cs) (F : Fr lm bs H H') (n1 : lr ≠ lm) (n2 : lr ∉ bs) (n3 : lm ∉ as) (n4 : ∀ a ∈ as, a ∉ bs) : HeapAt H' lr as cs :=
  h.keep fun b xs z e => F b _ (Or.inl (by
    rcases z with z | z
    · subst z; exact ⟨n1, n2⟩
    · exact ⟨fun w => n3 (w ▸ z), n4 b z⟩)) e
theorem HeapAt.push {H H' : Hp} {lr l : Addr} {as : List Addr} {cs : List (List Int)} {c : List Int} (h : HeapAt H lr as cs) (hl : H l = some (.lst (c.map V.int))) (n1 : l ≠ lr) (n2 : l ∉ as) (B : But lr H H') (e : H' lr = some (.lst (as.map V.ref ++ [V.ref l]))) :
    HeapAt H' lr (as ++ [l]) (cs ++ [c]) := by
  refine ⟨by rw [e, List.map_append]; rfl, fun j a hj => ?_, by rw [List.length_append, List.length_append, h.len]; rfl, ?_, ?_⟩
  · by_cases hjl : j < as.length
    · rw [List.getElem?_append_left hjl] at hj
      obtain ⟨c, e1, e2⟩ := h.row j a hj
      exact ⟨c, by rw [List.getElem?_append_left (by rw [← h.len]; exact hjl)]; exact e1, B _ _ (.inl fun z => h.ne (z ▸ List.mem_of_getElem? hj)) e2⟩
    · rw [List.getElem?_append_right (by omega)] at hj
      have hj0 : j - as.length = 0 := by
        have := (List.getElem?_eq_some_iff.mp hj).1
        simp only [List.length_singleton] at this
        omega
      rw [hj0] at hj
      cases hj
      exact ⟨c, by rw [List.getElem?_append_right (by rw [← h.len]; omega), ← h.len, hj0]; rfl, B _ _ (.inl n1) hl⟩
  · rw [List.nodup_append]
    exact ⟨h.nd, by simp, fun a ha b hb => by cases List.mem_singleton.mp hb; intro z; subst z; exact n2 ha⟩
  · intro z
    rcases List.mem_append.mp z with z | z
    · exact h.ne z
    · exact n1 (List.mem_singleton.mp z).symm
theorem heap_dp {K : PySem.W.Frag} {H : Hp} {lr : Addr} {as : List Addr} {cs : List (List Int)} (h : HeapAt H lr as cs) : Dp K H (.ref lr) (.list (cs.map fun c => .list (c.map .int))) := by
  refine .lst (SqL.of h.top) ?_
  have key : ∀ (as : List Addr) (cs : List (List Int)), as.length = cs.length → (∀ (i : Nat) (a : Addr), as[i]? = some a → ∃ c, cs[i]? = some c ∧ H a = some (.lst (c.map V.int))) → DpAll K H (as.map V.ref) (cs.map fun c => PyData.list (c.map .int)) := by
    intro as
    induction as with
    | nil => intro cs hl _; cases cs with
      | nil => exact .nil
      | cons => cases hl
    | cons a r ih =>
      intro cs hl hr
      cases cs with
      | nil => cases hl
      | cons c s =>
        obtain ⟨c', e, hc⟩ := hr 0 a rfl
        cases e
        exact .cons (.lst (SqL.of hc) (dp_ints c)) (ih s (by simpa using hl) fun i b hb => hr (i + 1) b hb)
  exact key as cs h.len h.row
theorem heap_sh (cs : List (List Int)) : Sh 2 (.list (cs.map fun c => .list (c.map .int))) := Sh.list fun d h => by
  obtain ⟨c, _, rfl⟩ := List.mem_map.mp h
  exact Sh.list (sh_ints c)
def Few (m n : Nat) (cs : List (List Int)) : Prop := cs.length ≤ m ∧ ∀ c ∈ cs, c.length ≤ n
theorem rowW_few {k : Int} {vs row : List Int} : (rowW k vs row).2.length ≤ row.length + 1 := by
  unfold rowW
  repeat' split
  all_goals simp
theorem rowsW_few {k : Int} {vs : List Int} {cs : List (List Int)} {m n : Nat} (h : Few m n cs) : Few (m + 1) (n + 1) (rowsW k vs cs).2 := by
  obtain ⟨h1, h2⟩ := h
  unfold rowsW
  split
  · refine ⟨by simp; exact h1, fun c hc => ?_⟩
    rcases List.mem_append.mp hc with z | z
    · have := h2 c z; omega
    · cases List.mem_singleton.mp z; exact Nat.zero_le _
  · split
    · refine ⟨by rw [List.length_set]; omega, fun c hc => ?_⟩
      rcases List.mem_or_eq_of_mem_set hc with z | z
      · have := h2 c z; omega
      · subst z
        have := rowW_few (k := k) (vs := vs) (row := cs.getD (vs.getD 0 0).toNat [])
        have : (cs.getD (vs.getD 0 0).toNat []).length ≤ n := by
          rw [List.getD_eq_getElem?_getD]
          cases e : cs[(vs.getD 0 0).toNat]? with
          | none => exact Nat.zero_le _
          | some c => exact h2 c (List.mem_of_getElem? e)
        omega
    · exact ⟨Nat.le_succ_of_le h1, fun c hc => Nat.le_succ_of_le (h2 c hc)⟩
theorem rowsW_len {k : Int} {vs : List Int} {cs : List (List Int)} : cs.length ≤ (rowsW k vs cs).2.length := by
  unfold rowsW
  repeat' split
  all_goals simp
theorem rowsW_fine (k : Int) (vs : List Int) (cs : List (List Int)) : (rowsW k vs cs).1.fine := by
  unfold rowsW rowW
  repeat' split
  all_goals first | trivial | (show PyData.strOk _ = true; decide +kernel)
def partsN (k : Int) : Nat := if k = 19 then 0 else if k = 18 then 1 else if k = 17 then 3 else 2
def q_of_row (Z : Adr) (k l r : V) (H : Hp) (Q : VK) (E : XK) : Prop := ∃ (i : Int) (lv a : Addr) (vs c : List Int), k = .int i ∧ l = .ref lv ∧ r = .ref a ∧ 15 ≤ i ∧ i ≤ 18 ∧ vs.length = partsN i ∧ lv ≠ a ∧
  H lv = some (.lst (vs.map V.int)) ∧ H a = some (.lst (c.map V.int)) ∧ c.length < 10000000 ∧
  ∀ t H', But a H H' → H' a = some (.lst ((rowW i vs c).2.map V.int)) → H t = none → H' t = some (.tup (rowW i vs c).1.vs) → Q (.ref t) H'
def q_worth (Z : Adr) (k l r : V) (H : Hp) (Q : VK) (E : XK) : Prop :=
  (∃ (i a b : Int) (lv : Addr), k = .int i ∧ l = .ref lv ∧ 8 ≤ i ∧ i ≤ 14 ∧ H lv = some (.lst [.int a, .int b]) ∧ Fig a ∧ Fig b ∧
    ∀ t H', Same H H' → H t = none → H' t = some (.tup (numW i a b).vs) → Q (.ref t) H') ∨
  ∃ (i : Int) (lv lr : Addr) (vs : List Int) (as : List Addr) (cs : List (List Int)), k = .int i ∧ l = .ref lv ∧ r = .ref lr ∧ 15 ≤ i ∧ i ≤ 19 ∧ vs.length = partsN i ∧ H lv = some (.lst (vs.map V.int)) ∧ HeapAt H lr as cs ∧ lv ∉ as ∧ lv ≠ lr ∧
    cs.length < 10000000 ∧ (∀ c ∈ cs, c.length < 10000000) ∧
    ∀ t as' H', Fr lr as H H' → HeapAt H' lr as' (rowsW i vs cs).2 → (∀ n ∈ as', n ∈ as ∨ H n = none) → H t = none → t ∉ as' → H' t = some (.tup (rowsW i vs cs).1.vs) → Q (.ref t) H'

/-! ### nodes as trees -/
inductive Nd where
  | mk (kind place : Int) (nums : List Int) (parts : List Nd)
def Nd.kind : Nd → Int
  | .mk k _ _ _ => k
def Nd.place : Nd → Int
  | .mk _ p _ _ => p
def Nd.nums : Nd → List Int
  | .mk _ _ ns _ => ns
def Nd.parts : Nd → List Nd
  | .mk _ _ _ ps => ps
mutual
/-- a node as it lies: tuples all through -/
def NodeAt (H : Hp) : Nd → V → Prop
  | .mk k p ns ps, v => ∃ (t tn tp : Addr) (vs : List V), v = .ref t ∧ H t = some (.tup [.int k, .int p, .ref tn, .ref tp]) ∧ H tn = some (.tup (ns.map V.int)) ∧ H tp = some (.tup vs) ∧ NodesAt H ps vs
def NodesAt (H : Hp) : List Nd → List V → Prop
  | [], vs => vs = []
  | n :: ns, vs => ∃ v r, vs = v :: r ∧ NodeAt H n v ∧ NodesAt H ns r
end
mutual
theorem NodeAt.mono {H H' : Hp} (S : TupS H H') : ∀ {n : Nd} {v : V}, NodeAt H n v → NodeAt H' n v
  | .mk _ _ _ _, _, ⟨t, tn, tp, vs, e, h1, h2, h3, h4⟩ => ⟨t, tn, tp, vs, e, S _ _ h1, S _ _ h2, S _ _ h3, NodesAt.mono S h4⟩
theorem NodesAt.mono {H H' : Hp} (S : TupS H H') : ∀ {ns : List Nd} {vs : List V}, NodesAt H ns vs → NodesAt H' ns vs
  | [], _, h => h
  | _ :: _, _, ⟨v, r, e, h1, h2⟩ => ⟨v, r, e, NodeAt.mono S h1, NodesAt.mono S h2⟩
end
theorem NodesAt.len {H : Hp} : ∀ {ns : List Nd} {vs : List V}, NodesAt H ns vs → vs.length = ns.length
  | [], _, h => by rw [show _ = [] from h]; rfl
  | _ :: _, _, ⟨v, r, e, _, h2⟩ => by rw [e, List.length_cons, List.length_cons, NodesAt.len h2]
theorem NodesAt.get {H : Hp} : ∀ {ns : List Nd} {vs : List V} {i : Nat} {v : V}, NodesAt H ns vs → vs[i]? = some v → ∃ n, ns[i]? = some n ∧ NodeAt H n v
  | [], _, _, _, h, e => by rw [show _ = [] from h] at e; simp at e
  | n :: _, _, 0, _, ⟨v, r, e0, h1, h2⟩, e => by rw [e0] at e; cases e; exact ⟨n, rfl, h1⟩
  | _ :: ns, _, i + 1, _, ⟨v, r, e0, h1, h2⟩, e => by
    rw [e0] at e
    obtain ⟨n, en, hn⟩ := NodesAt.get (ns := ns) (i := i) h2 (by simpa using e)
    exact ⟨n, by simpa using en, hn⟩
theorem NodesAt.app {H : Hp} : ∀ {ns : List Nd} {vs : List V} {n : Nd} {v : V}, NodesAt H ns vs → NodeAt H n v → NodesAt H (ns ++ [n]) (vs ++ [v])
  | [], _, n, v, h, hn => by rw [show _ = [] from h]; exact ⟨v, [], rfl, hn, rfl⟩
  | _ :: _, _, n, v, ⟨w, r, e, h1, h2⟩, hn => by rw [e]; exact ⟨w, r ++ [v], rfl, h1, NodesAt.app h2 hn⟩

/-! ### nodes that are fixed -/
def optV : Option Int → V
  | none => .non
  | some v => .int v
def woO : Wo → Option Int
  | .ok v => some v
  | .flt _ => none
mutual
def fixN : Nd → Option Int
  | .mk k _ ns ps => if k = 0 then some (ns.getD 0 0) else if k < 8 ∨ 14 < k then none else
    match fixNs ps with
    | some [a, b] => woO (numW k a b)
    | _ => none
def fixNs : List Nd → Option (List Int)
  | [] => some []
  | n :: ns => match fixN n with
    | none => none
    | some a => (fixNs ns).map (a :: ·)
end
mutual
/-- what a node that may be fixed looks like -/
def Nd.fit : Nd → Prop
  | .mk k _ ns ps => (k = 0 → ∃ x r, ns = x :: r ∧ Fig x) ∧ (8 ≤ k ∧ k ≤ 14 → ps.length = 2 ∧ fitAll ps)
def fitAll : List Nd → Prop
  | [] => True
  | n :: ns => n.fit ∧ fitAll ns
end
mutual
/-- how deep fixed goes -/
def Nd.fdep : Nd → Nat
  | .mk k _ _ ps => if 8 ≤ k ∧ k ≤ 14 then fdeps ps + 1 else 1
def fdeps : List Nd → Nat
  | [] => 0
  | n :: ns => max n.fdep (fdeps ns)
end
theorem fitAll_get : ∀ {ns : List Nd} {i : Nat} {n : Nd}, fitAll ns → ns[i]? = some n → n.fit
  | _ :: _, 0, _, h, e => by cases e; exact h.1
  | _ :: ns, i + 1, _, h, e => fitAll_get h.2 (by simpa using e)
theorem fdeps_get : ∀ {ns : List Nd} {i : Nat} {n : Nd}, ns[i]? = some n → n.fdep ≤ fdeps ns
  | n :: ns, 0, _, e => by cases e; exact Nat.le_max_left _ _
  | n :: ns, i + 1, _, e => Nat.le_trans (fdeps_get (ns := ns) (by simpa using e)) (Nat.le_max_right _ _)
theorem numW_fig {k a b v : Int} (ha : Fig a) (hb : Fig b) (h : woO (numW k a b) = some v) : Fig v := by
  unfold numW sumW quoW at h
  have p1 : 2 ≤ 10 ^ 100 := by decide +kernel
  unfold Fig at *
  have md : ¬ b = 0 → (a.fmod b).natAbs < 10 ^ 100 := fun h1 => by
    have h2 : (a.fmod b).natAbs < b.natAbs := by
      rcases Int.lt_or_gt_of_ne h1 with z | z
      · have e : a.fmod b = -((-a).fmod (-b)) := by rw [Int.neg_fmod_neg]; omega
        have h3 := Int.fmod_nonneg_of_pos (-a) (b := -b) (by omega)
        have h4 := Int.fmod_lt_of_pos (-a) (b := -b) (by omega)
        omega
      · have h3 := Int.fmod_nonneg_of_pos a (b := b) (by omega)
        have h4 := Int.fmod_lt_of_pos a (b := b) (by omega)
        omega
    omega
  repeat' split at h
  all_goals first
    | (cases h; assumption)
    | (cases h; done)
    | (cases h; omega)
    | (cases h; exact Nat.lt_of_le_of_lt (Int.natAbs_fdiv_le_natAbs a b) ha)
    | (cases h; exact md (by assumption))
mutual
theorem fixN_fig : ∀ {n : Nd} {v : Int}, n.fit → fixN n = some v → Fig v
  | .mk k p ns ps, v, hf, h => by
    unfold fixN at h
    split at h
    · rename_i h0
      obtain ⟨x, r, e, f⟩ := hf.1 h0
      subst e
      cases h
      exact f
    · split at h
      · cases h
      · rename_i h1
        have fa := (hf.2 (by omega)).2
        split at h
        · rename_i a b e
          have := fixNs_fig fa e
          exact numW_fig (this a (by simp)) (this b (by simp)) h
        · cases h
theorem fixNs_fig : ∀ {ns : List Nd} {vs : List Int}, fitAll ns → fixNs ns = some vs → ∀ v ∈ vs, Fig v
  | [], _, _, h => by cases h; intro v hv; cases hv
  | n :: ns, vs, hf, h => by
    unfold fixNs at h
    split at h
    · cases h
    · rename_i a e
      cases e2 : fixNs ns with
      | none => rw [e2] at h; cases h
      | some r =>
        rw [e2] at h
        cases h
        intro v hv
        rcases List.mem_cons.mp hv with z | z
        · subst z; exact fixN_fig hf.1 e
        · exact fixNs_fig hf.2 e2 v z
end
theorem fixNs_len : ∀ {ns : List Nd} {vs : List Int}, fixNs ns = some vs → vs.length = ns.length
  | [], _, h => by cases h; rfl
  | n :: ns, vs, h => by
    unfold fixNs at h
    split at h
    · cases h
    · cases e2 : fixNs ns with
      | none => rw [e2] at h; cases h
      | some r => rw [e2] at h; cases h; rw [List.length_cons, List.length_cons, fixNs_len e2]
theorem fixNs_take : ∀ {ns : List Nd} {i : Nat} {n : Nd} {vs : List Int}, ns[i]? = some n → fixNs (ns.take i) = some vs → (∀ a, fixN n = some a → fixNs (ns.take (i + 1)) = some (vs ++ [a])) ∧ (fixN n = none → fixNs ns = none)
  | m :: ns, 0, n, vs, e, h => by
    cases e
    cases h
    refine ⟨fun a ha => ?_, fun ha => ?_⟩
    · show fixNs [m] = _
      simp only [fixNs, ha]
      rfl
    · simp only [fixNs, ha]
  | m :: ns, i + 1, n, vs, e, h => by
    rw [List.take_succ_cons] at h
    unfold fixNs at h
    cases em : fixN m with
    | none => rw [em] at h; cases h
    | some b =>
      rw [em] at h
      dsimp only at h
      cases er : fixNs (ns.take i) with
      | none => rw [er] at h; cases h
      | some r =>
        rw [er] at h
        cases h
        have ih := fixNs_take (ns := ns) (i := i) (n := n) (vs := r) (by simpa using e) er
        refine ⟨fun a ha => ?_, fun ha => ?_⟩
        · rw [List.take_succ_cons]
          simp only [fixNs, em]
          rw [ih.1 a ha]
          rfl
        · simp only [fixNs, em]
          rw [ih.2 ha]
          rfl
def q_fixed (Z : Adr) (n : Nat) (a : V) (H : Hp) (Q : VK) (E : XK) : Prop := ∃ nd : Nd, NodeAt H nd a ∧ nd.fit ∧ nd.fdep ≤ n ∧ ∀ H', Same H H' → Q (optV (fixN nd)) H'
theorem no_fixed {Z : Adr} {a : V} {H : Hp} {Q : VK} {E : XK} : ¬ q_fixed Z 0 a H Q E := fun ⟨nd, _, _, h, _⟩ => by
  cases nd
  unfold Nd.fdep at h
  split at h <;> omega

/-- a script's state: the script, at, left, two numbers more -/
def St5 (K : PySem.W.Frag) (H : Hp) (p : Addr) : Prop := ∃ (sa : Addr) (ns : List Int) (k l b f : Int), Scr K H sa ns ∧ 0 ≤ k ∧ 0 ≤ l ∧ H p = some (.lst [.ref sa, .int k, .int l, .int b, .int f])
theorem St5.ne {K : PySem.W.Frag} {H : Hp} {p q : Addr} (h : St5 K H p) (hq : H q = none) : q ≠ p := by
  obtain ⟨sa, ns, k, l, b, f, hS, hk, hl, hp⟩ := h
  exact (ne_of_none hp hq).symm
theorem St5.but {K : PySem.W.Frag} {H H' : Hp} {p q : Addr} (h : St5 K H p) (B : But q H H') (n : p ≠ q) : St5 K H' p := by
  obtain ⟨sa, ns, k, l, b, f, hS, hk, hl, hp⟩ := h
  exact ⟨sa, ns, k, l, b, f, hS.but B, hk, hl, B _ _ (.inl n) hp⟩
theorem St5.same {K : PySem.W.Frag} {H H' : Hp} {p : Addr} (h : St5 K H p) (S : Same H H') : St5 K H' p := by
  obtain ⟨sa, ns, k, l, b, f, hS, hk, hl, hp⟩ := h
  exact ⟨sa, ns, k, l, b, f, hS.same S, hk, hl, S _ _ hp⟩
theorem St5.new {K : PySem.W.Frag} {H : Hp} {p q : Addr} {o : HO} (h : St5 K H p) (hq : H q = none) : St5 K (upd H q o) p := h.same (same_new hq)
theorem St5.tups {K : PySem.W.Frag} {H H' : Hp} {p : Addr} (h : St5 K H p) (B : But p H H') : TupS H H' := by
  obtain ⟨sa, ns, k, l, b, f, hS, hk, hl, hp⟩ := h
  exact TupS.but B hp fun ys e => by cases e
def q_Lcell (Z : Adr) (a b : V) (H : Hp) (Q : VK) (E : XK) : Prop := ∃ sa ns k, a = .ref sa ∧ b = .int k ∧ Scr Z.K H sa ns ∧ 0 ≤ k ∧ ∀ i, Q (.int i) H
def q_Ltake (Z : Adr) (a b : V) (H : Hp) (Q : VK) (E : XK) : Prop := ∃ p m, a = .ref p ∧ b = .int m ∧ 0 < m ∧ m < 1000000 ∧ St5 Z.K H p ∧ ∀ v H', 0 ≤ v → v < m → St5 Z.K H' p → But p H H' → Q (.int v) H'
def q_Lnumber (Z : Adr) (a : V) (H : Hp) (Q : VK) (E : XK) : Prop := ∃ p, a = .ref p ∧ St5 Z.K H p ∧ ∀ v H', Fig v → St5 Z.K H' p → But p H H' → Q (.int v) H'
def q_Lleaf (Z : Adr) (a : V) (H : Hp) (Q : VK) (E : XK) : Prop := ∃ p, a = .ref p ∧ St5 Z.K H p ∧ ∀ pl x v H', NodeAt H' (.mk 0 pl [x] []) v → Fig x → St5 Z.K H' p → But p H H' → Q v H'
def q_Lother (Z : Adr) (a : V) (H : Hp) (Q : VK) (E : XK) : Prop := ∃ p, a = .ref p ∧ St5 Z.K H p ∧ ∀ k pl ns ps v H', NodeAt H' (.mk k pl ns ps) v → k ≠ 0 → (k < 8 ∨ 14 < k) → St5 Z.K H' p → But p H H' → Q v H'
def q_Lnode (Z : Adr) (n : Nat) (a b : V) (H : Hp) (Q : VK) (E : XK) : Prop := ∃ (p : Addr) (d : Int), a = .ref p ∧ b = .int d ∧ 1 ≤ d ∧ d ≤ 6 ∧ 7 - d ≤ n ∧ St5 Z.K H p ∧ ∀ (nd : Nd) v H', NodeAt H' nd v → nd.fit → (nd.fdep : Int) ≤ 7 - d → St5 Z.K H' p → But p H H' → Q v H'
theorem no_Lnode {Z : Adr} {a b : V} {H : Hp} {Q : VK} {E : XK} : ¬ q_Lnode Z 0 a b H Q E := fun ⟨p, d, _, _, _, h1, h2, _⟩ => by omega
def q_Lworked (Z : Adr) (k x y : V) (H : Hp) (Q : VK) (E : XK) : Prop := ∃ i a b : Int, k = .int i ∧ x = .int a ∧ y = .int b ∧ 8 ≤ i ∧ i ≤ 14 ∧ Fig a ∧ Fig b ∧ ∀ H', Same H H' → Q (optV (woO (numW i a b))) H'
def q_Ldue (Z : Adr) (n : Nat) (a : V) (H : Hp) (Q : VK) (E : XK) : Prop := q_fixed Z n a H Q E
theorem no_Ldue {Z : Adr} {a : V} {H : Hp} {Q : VK} {E : XK} : ¬ q_Ldue Z 0 a H Q E := no_fixed
def q_law (Z : Adr) (v : V) (H : Hp) (Q : VK) (E : XK) : Prop := ∃ (a : Addr) (ns : List Int), v = .ref a ∧ Only H ∧ Scr Z.K H a ns ∧ ns.length ≤ 63 ∧ ∀ H', Q (.bl true) H'

def sp_summed (Z : Adr) : Sp := Sp3 (q_summed Z)
theorem cl_summed {Z : Adr} {a0 a1 a2 : V} {H : Hp} {Q : VK} {E : XK} (h : q_summed Z a0 a1 a2 H Q E) : sp_summed Z [a0, a1, a2] H Q E := ⟨a0, a1, a2, rfl, h⟩
def sp_parted_by (Z : Adr) : Sp := Sp3 (q_parted_by Z)
theorem cl_parted_by {Z : Adr} {a0 a1 a2 : V} {H : Hp} {Q : VK} {E : XK} (h : q_parted_by Z a0 a1 a2 H Q E) : sp_parted_by Z [a0, a1, a2] H Q E := ⟨a0, a1, a2, rfl, h⟩
def sp_of_numbers (Z : Adr) : Sp := Sp2 (q_of_numbers Z)
theorem cl_of_numbers {Z : Adr} {a0 a1 : V} {H : Hp} {Q : VK} {E : XK} (h : q_of_numbers Z a0 a1 H Q E) : sp_of_numbers Z [a0, a1] H Q E := ⟨a0, a1, rfl, h⟩
def sp_of_row (Z : Adr) : Sp := Sp3 (q_of_row Z)
theorem cl_of_row {Z : Adr} {a0 a1 a2 : V} {H : Hp} {Q : VK} {E : XK} (h : q_of_row Z a0 a1 a2 H Q E) : sp_of_row Z [a0, a1, a2] H Q E := ⟨a0, a1, a2, rfl, h⟩
def sp_worth (Z : Adr) : Sp := Sp3 (q_worth Z)
theorem cl_worth {Z : Adr} {a0 a1 a2 : V} {H : Hp} {Q : VK} {E : XK} (h : q_worth Z a0 a1 a2 H Q E) : sp_worth Z [a0, a1, a2] H Q E := ⟨a0, a1, a2, rfl, h⟩
def sp_fixed (Z : Adr) (n : Nat) : Sp := Sp1 (q_fixed Z n)
theorem cl_fixed {Z : Adr} {n : Nat} {a0 : V} {H : Hp} {Q : VK} {E : XK} (h : q_fixed Z n a0 H Q E) : sp_fixed Z n [a0] H Q E := ⟨a0, rfl, h⟩
def sp_Lcell (Z : Adr) : Sp := Sp2 (q_Lcell Z)
theorem cl_Lcell {Z : Adr} {a0 a1 : V} {H : Hp} {Q : VK} {E : XK} (h : q_Lcell Z a0 a1 H Q E) : sp_Lcell Z [a0, a1] H Q E := ⟨a0, a1, rfl, h⟩
def sp_Ltake (Z : Adr) : Sp := Sp2 (q_Ltake Z)
theorem cl_Ltake {Z : Adr} {a0 a1 : V} {H : Hp} {Q : VK} {E : XK} (h : q_Ltake Z a0 a1 H Q E) : sp_Ltake Z [a0, a1] H Q E := ⟨a0, a1, rfl, h⟩
def sp_Lnumber (Z : Adr) : Sp := Sp1 (q_Lnumber Z)
theorem cl_Lnumber {Z : Adr} {a0 : V} {H : Hp} {Q : VK} {E : XK} (h : q_Lnumber Z a0 H Q E) : sp_Lnumber Z [a0] H Q E := ⟨a0, rfl, h⟩
def sp_Lleaf (Z : Adr) : Sp := Sp1 (q_Lleaf Z)
theorem cl_Lleaf {Z : Adr} {a0 : V} {H : Hp} {Q : VK} {E : XK} (h : q_Lleaf Z a0 H Q E) : sp_Lleaf Z [a0] H Q E := ⟨a0, rfl, h⟩
def sp_Lother (Z : Adr) : Sp := Sp1 (q_Lother Z)
theorem cl_Lother {Z : Adr} {a0 : V} {H : Hp} {Q : VK} {E : XK} (h : q_Lother Z a0 H Q E) : sp_Lother Z [a0] H Q E := ⟨a0, rfl, h⟩
def sp_Lnode (Z : Adr) (n : Nat) : Sp := Sp2 (q_Lnode Z n)
theorem cl_Lnode {Z : Adr} {n : Nat} {a0 a1 : V} {H : Hp} {Q : VK} {E : XK} (h : q_Lnode Z n a0 a1 H Q E) : sp_Lnode Z n [a0, a1] H Q E := ⟨a0, a1, rfl, h⟩
def sp_Lworked (Z : Adr) : Sp := Sp3 (q_Lworked Z)
theorem cl_Lworked {Z : Adr} {a0 a1 a2 : V} {H : Hp} {Q : VK} {E : XK} (h : q_Lworked Z a0 a1 a2 H Q E) : sp_Lworked Z [a0, a1, a2] H Q E := ⟨a0, a1, a2, rfl, h⟩
def sp_Ldue (Z : Adr) (n : Nat) : Sp := Sp1 (q_Ldue Z n)
theorem cl_Ldue {Z : Adr} {n : Nat} {a0 : V} {H : Hp} {Q : VK} {E : XK} (h : q_Ldue Z n a0 H Q E) : sp_Ldue Z n [a0] H Q E := ⟨a0, rfl, h⟩
def sp_law (Z : Adr) : Sp := Sp1 (q_law Z)
theorem cl_law {Z : Adr} {a0 : V} {H : Hp} {Q : VK} {E : XK} (h : q_law Z a0 H Q E) : sp_law Z [a0] H Q E := ⟨a0, rfl, h⟩
def t_summed (Z : Adr) (W : WX) : TS := (C8.tCut (tIfS (tTest (tOp (rEqU Z.K) (tVar 0) (tC (.int 8)))) (tAsg (tOp (rAddU Z.K) (tVar 1) (tVar 2)) (gName 3)) (tIfS (tTest (tOp (rEqU Z.K) (tVar 0) (tC (.int 9)))) (tAsg (tOp (rI0 fun i j => .int (i - j)) (tVar 1) (tVar 2)) (gName 3)) (tAsg (tOp rMul (tVar 1) (tVar 2)) (gName 3))))
    (tSeq (tIfS (tTest (tOp (rI0 fun i j => .bl (decide (j < i))) (tCB (rLen Z.K) (tCons (tCB rStrI (tCons (tCB rAbs (tCons (tVar 3) tNil)) tNil)) tNil)) (tC (.int 100)))) (tRet (tTup (tCons (tC (.str "great")) (tCons (tC (.int 0)) tNil)))) tNext)
    (tRet (tTup (tCons (tC .non) (tCons (tVar 3) tNil))))))
def t_parted_by (Z : Adr) (W : WX) : TS := (tSeq (tIfS (tTest (tOp (rEqU Z.K) (tVar 2) (tC (.int 0)))) (tRet (tTup (tCons (tC (.str "zero")) (tCons (tC (.int 0)) tNil)))) tNext)
    (tSeq (tIfS (tTest (tOp (rEqU Z.K) (tVar 0) (tC (.int 11)))) (tRet (tTup (tCons (tC .non) (tCons (tOp rFdv (tVar 1) (tVar 2)) tNil)))) tNext)
    (tRet (tTup (tCons (tC .non) (tCons (tOp rMod (tVar 1) (tVar 2)) tNil))))))
def t_of_numbers (Z : Adr) (W : WX) : TS := (tSeq (tAsg (tVar 1) (gUn Z.K 2 (gCons (gName 2) (gCons (gName 3) gNil))))
    (tSeq (tIfS (tTest (tOp (rIn Z.K false) (tVar 0) (tTup (tCons (tC (.int 8)) (tCons (tC (.int 9)) (tCons (tC (.int 10)) tNil)))))) (tRet (tCallS (sp_summed Z) (WE W) (tCons (tVar 0) (tCons (tVar 2) (tCons (tVar 3) tNil))))) tNext)
    (tSeq (tIfS (tTest (tOp (rIn Z.K false) (tVar 0) (tTup (tCons (tC (.int 11)) (tCons (tC (.int 12)) tNil))))) (tRet (tCallS (sp_parted_by Z) (WE W) (tCons (tVar 0) (tCons (tVar 2) (tCons (tVar 3) tNil))))) tNext)
    (tSeq (tIfS (tTest (tOp (rEqU Z.K) (tVar 0) (tC (.int 13)))) (tRet (tTup (tCons (tC .non) (tCons (tCB rInt1 (tCons (tOp (rI0 fun i j => .bl (decide (i < j))) (tVar 2) (tVar 3)) tNil)) tNil)))) tNext)
    (tRet (tTup (tCons (tC .non) (tCons (tCB rInt1 (tCons (tOp (rEqU Z.K) (tVar 2) (tVar 3)) tNil)) tNil))))))))
def t_of_row (Z : Adr) (W : WX) : TS := (tSeq (tIfS (tTest (tOp (rEqU Z.K) (tVar 0) (tC (.int 18)))) (tRet (tTup (tCons (tC .non) (tCons (tCB (rLen Z.K) (tCons (tVar 2) tNil)) tNil)))) tNext)
    (tSeq (tIfS (tTest (tOp (rEqU Z.K) (tVar 0) (tC (.int 15)))) (tSeq (tDrop (tBM Z.K "list" rAppend (tVar 2) (tCons (tOp (rIx Z.K) (tVar 1) (tC (.int 1))) tNil)))
    (tRet (tTup (tCons (tC .non) (tCons (tOp (rIx Z.K) (tVar 1) (tC (.int 1))) tNil))))) tNext)
    (tSeq (tIfS (tNot (tTest (tChain (rI0 fun i j => .bl (decide (i ≤ j))) (rI0 fun i j => .bl (decide (i < j))) (tC (.int 0)) (tOp (rIx Z.K) (tVar 1) (tC (.int 1))) (tCB (rLen Z.K) (tCons (tVar 2) tNil))))) (tRet (tTup (tCons (tC (.str "place")) (tCons (tC (.int 0)) tNil)))) tNext)
    (tSeq (tIfS (tTest (tOp (rEqU Z.K) (tVar 0) (tC (.int 16)))) (tRet (tTup (tCons (tC .non) (tCons (tOp (rIx Z.K) (tVar 2) (tOp (rIx Z.K) (tVar 1) (tC (.int 1)))) tNil)))) tNext)
    (tSeq (tAsg (tOp (rIx Z.K) (tVar 1) (tC (.int 2))) (gSub (tVar 2) (tOp (rIx Z.K) (tVar 1) (tC (.int 1))) rSetL))
    (tRet (tTup (tCons (tC .non) (tCons (tOp (rIx Z.K) (tVar 1) (tC (.int 2))) tNil)))))))))
def t_worth (Z : Adr) (W : WX) : TS := (tSeq (tIfS (tTest (tOp (rI0 fun i j => .bl (decide (i ≤ j))) (tVar 0) (tC (.int 14)))) (tRet (tCallS (sp_of_numbers Z) (WE W) (tCons (tVar 0) (tCons (tVar 1) tNil)))) tNext)
    (tSeq (tIfS (tTest (tOp (rI0 fun i j => .bl (decide (j < i))) (tVar 0) (tC (.int 18)))) (tSeq (tDrop (tBM Z.K "list" rAppend (tVar 2) (tCons (tLst tNil) tNil)))
    (tRet (tTup (tCons (tC .non) (tCons (tOp (rI0 fun i j => .int (i - j)) (tCB (rLen Z.K) (tCons (tVar 2) tNil)) (tC (.int 1))) tNil))))) tNext)
    (tSeq (tIfS (tNot (tTest (tChain (rI0 fun i j => .bl (decide (i ≤ j))) (rI0 fun i j => .bl (decide (i < j))) (tC (.int 0)) (tOp (rIx Z.K) (tVar 1) (tC (.int 0))) (tCB (rLen Z.K) (tCons (tVar 2) tNil))))) (tRet (tTup (tCons (tC (.str "row")) (tCons (tC (.int 0)) tNil)))) tNext)
    (tRet (tCallS (sp_of_row Z) (WE W) (tCons (tVar 0) (tCons (tVar 1) (tCons (tOp (rIx Z.K) (tVar 2) (tOp (rIx Z.K) (tVar 1) (tC (.int 0)))) tNil))))))))
def t_fixed (Z : Adr) (n : Nat) (W : WX) : TS := (tSeq (tAsg (tVar 0) (gUn Z.K 4 (gCons (gName 1) (gCons (gName 2) (gCons (gName 3) (gCons (gName 4) gNil))))))
    (tSeq (tIfS (tTest (tOp (rEqU Z.K) (tVar 1) (tC (.int 0)))) (tRet (tOp (rIx Z.K) (tVar 3) (tC (.int 0)))) tNext)
    (tSeq (tIfS (tOr (tTest (tOp (rI0 fun i j => .bl (decide (i < j))) (tVar 1) (tC (.int 8)))) (tTest (tOp (rI0 fun i j => .bl (decide (j < i))) (tVar 1) (tC (.int 14))))) (tRet (tC .non)) tNext)
    (tSeq (tAsg (tLst tNil) (gName 5))
    (tSeq (tFor (iTup Z.K (tVar 4)) (gName 6) (tSeq (tDrop (tBM Z.K "list" rAppend (tVar 5) (tCons (tCallS (sp_fixed Z n) (WE W) (tCons (tVar 6) tNil)) tNil)))
    (tIfS (tTest (tOp rIsNz (tOp (rIx Z.K) (tVar 5) (tUn (rU fun i => .int (-i)) (tC (.int 1)))) (tC .non))) (tRet (tC .non)) tNext)))
    (tSeq (tAsg (tCallS (sp_worth Z) (WE W) (tCons (tVar 1) (tCons (tVar 5) (tCons (tLst tNil) tNil)))) (gUn Z.K 2 (gCons (gName 7) (gCons (gName 8) gNil))))
    (tSeq (tIfS (tTest (tOp rNotNz (tVar 7) (tC .non))) (tRet (tC .non)) tNext)
    (tRet (tVar 8)))))))))
def t_Lcell (Z : Adr) (W : WX) : TS := (tSeq (tIfS (tTest (tOp (rI0 fun i j => .bl (decide (i < j))) (tVar 1) (tCB (rLen Z.K) (tCons (tVar 0) tNil)))) (tRet (tOp (rIx Z.K) (tVar 0) (tVar 1))) tNext)
    (tRet (tC (.int 0))))
def t_Ltake (Z : Adr) (W : WX) : TS := (tSeq (tAsg (tSl (rSlL Z.K) (tVar 0) tNoPart (tPart (tC (.int 3)))) (gUn Z.K 3 (gCons (gName 2) (gCons (gName 3) (gCons (gName 4) gNil)))))
    (C8.tCut (tIfS (tTest (tOp (rEqU Z.K) (tVar 4) (tC (.int 0)))) (tSeq (tAsg (tCallS (sp_Lcell Z) (WE W) (tCons (tVar 2) (tCons (tOp rMod (tVar 3) (tC (.int 63))) tNil))) (gName 5))
    (tSeq (tAsg (tOp (rAddU Z.K) (tVar 3) (tC (.int 1))) (gSub (tVar 0) (tC (.int 1)) rSetL))
    (tIfS (tAnd (tTest (tOp (rI0 fun i j => .bl (decide (i < j))) (tVar 3) (tCB (rLen Z.K) (tCons (tVar 2) tNil)))) (tTest (tOp (rI0 fun i j => .bl (decide (j ≤ i))) (tVar 5) (tC (.int 1000000000000000000))))) (tAsg (tVar 5) (gName 4)) (tSeq (tAsg (tOp rMod (tOp rMul (tOp (rAddU Z.K) (tOp (rAddU Z.K) (tOp rMod (tVar 5) (tC (.int 2147483647))) (tOp rMul (tC (.int 31)) (tVar 3))) (tC (.int 17))) (tC (.int 48271))) (tC (.int 2147483629))) (gName 6))
    (tSeq (tAsg (tOp rMod (tOp (rAddU Z.K) (tOp (rAddU Z.K) (tOp rMul (tVar 6) (tVar 6)) (tOp rMul (tC (.int 69621)) (tVar 6))) (tVar 3)) (tC (.int 2147483587))) (gName 6))
    (tRet (tOp rMod (tOp rFdv (tVar 6) (tC (.int 7))) (tVar 1)))))))) tNext)
    (tSeq (tAsg (tOp rFdv (tVar 4) (tVar 1)) (gSub (tVar 0) (tC (.int 2)) rSetL))
    (tRet (tOp rMod (tVar 4) (tVar 1))))))
def t_Lnumber (Z : Adr) (W : WX) : TS := (tSeq (tAsg (tCallS (sp_Ltake Z) (WE W) (tCons (tVar 0) (tCons (tC (.int 9)) tNil))) (gName 1))
    (tSeq (tIfS (tTest (tOp (rI0 fun i j => .bl (decide (i < j))) (tVar 1) (tC (.int 6)))) (tRet (tOp (rI0 fun i j => .int (i - j)) (tCallS (sp_Ltake Z) (WE W) (tCons (tVar 0) (tCons (tC (.int 9)) tNil))) (tC (.int 3)))) tNext)
    (tSeq (tAsg (tOp (rI0 fun i j => .int (i - j)) (tOp (rIx Z.K) (tLst (tCons (tOp (rI0 fun i j => .int (i - j)) (tC (.int 1000000000000000000000000000000000000000000000000000000000000)) (tC (.int 1))) (tCons (tC (.int 10000000000000000000000000000000000000000000000000)) (tCons (tC (.int 100000000000000000000000000000000000000000000000000)) tNil)))) (tOp (rI0 fun i j => .int (i - j)) (tVar 1) (tC (.int 6)))) (tCallS (sp_Ltake Z) (WE W) (tCons (tVar 0) (tCons (tC (.int 3)) tNil)))) (gName 2))
    (tRet (tOp rMul (tVar 2) (tOp (rIx Z.K) (tLst (tCons (tC (.int 1)) (tCons (tUn (rU fun i => .int (-i)) (tC (.int 1))) tNil))) (tCallS (sp_Ltake Z) (WE W) (tCons (tVar 0) (tCons (tC (.int 2)) tNil)))))))))
def t_Lleaf (Z : Adr) (W : WX) : TS := (tRet (tTup (tCons (tC (.int 0)) (tCons (tCallS (sp_Ltake Z) (WE W) (tCons (tVar 0) (tCons (tC (.int 90)) tNil))) (tCons (tTup (tCons (tCallS (sp_Lnumber Z) (WE W) (tCons (tVar 0) tNil)) tNil)) (tCons (tTup tNil) tNil))))))
def t_Lother (Z : Adr) (W : WX) : TS := (tSeq (tAsg (tOp (rIx Z.K) (tLst (tCons (tC (.int 1)) (tCons (tC (.int 2)) (tCons (tC (.int 3)) (tCons (tC (.int 4)) (tCons (tC (.int 5)) (tCons (tC (.int 6)) (tCons (tC (.int 7)) (tCons (tC (.int 15)) (tCons (tC (.int 16)) (tCons (tC (.int 17)) (tCons (tC (.int 18)) (tCons (tC (.int 19)) tNil))))))))))))) (tCallS (sp_Ltake Z) (WE W) (tCons (tVar 0) (tCons (tC (.int 12)) tNil)))) (gName 1))
    (tSeq (tAsg (tOp (rIx Z.K) (tLst (tCons (tC (.int 0)) (tCons (tC (.int 0)) (tCons (tC (.int 1)) (tCons (tC (.int 2)) (tCons (tC (.int 3)) (tCons (tC (.int 2)) (tCons (tC (.int 1)) (tCons (tC (.int 1)) (tCons (tC (.int 0)) (tCons (tC (.int 0)) (tCons (tC (.int 0)) (tCons (tC (.int 0)) (tCons (tC (.int 0)) (tCons (tC (.int 0)) (tCons (tC (.int 0)) (tCons (tC (.int 2)) (tCons (tC (.int 2)) (tCons (tC (.int 3)) (tCons (tC (.int 1)) (tCons (tC (.int 0)) tNil))))))))))))))))))))) (tVar 1)) (gName 2))
    (tSeq (tAsg (tTup tNil) (gName 3))
    (C8.tCut (tIfS (tTest (tOp (rIn Z.K false) (tVar 1) (tTup (tCons (tC (.int 1)) (tCons (tC (.int 2)) (tCons (tC (.int 3)) (tCons (tC (.int 4)) (tCons (tC (.int 6)) tNil)))))))) (tAsg (tTup (tCons (tOp (rIx Z.K) (tLst (tCons (tC (.int 0)) (tCons (tC (.int 0)) (tCons (tC (.int 0)) (tCons (tC (.int 2)) (tCons (tC (.int 2)) (tCons (tC (.int 0)) (tCons (tC (.int 1)) tNil)))))))) (tVar 1)) tNil)) (gName 3)) tNext)
    (tRet (tTup (tCons (tVar 1) (tCons (tCallS (sp_Ltake Z) (WE W) (tCons (tVar 0) (tCons (tC (.int 90)) tNil))) (tCons (tVar 3) (tCons (tCB (rTupOf Z.K) (tCons (tLc (iRng1 (tCons (tVar 2) tNil)) (gName 5) tYes (tCallS (sp_Lleaf Z) (WE fun _ _ _ _ => False) (tCons (tVar 0) tNil)) [4, 5]) tNil)) tNil))))))))))
def t_Lnode (Z : Adr) (n : Nat) (W : WX) : TS := (tSeq (tAsg (tOp (rI0 fun i j => .int (i - j)) (tOp (rIx Z.K) (tVar 0) (tC (.int 3))) (tC (.int 1))) (gSub (tVar 0) (tC (.int 3)) rSetL))
    (tSeq (tIfS (tOr (tTest (tOp (rEqU Z.K) (tVar 1) (tC (.int 6)))) (tOr (tTest (tOp (rI0 fun i j => .bl (decide (i < j))) (tOp (rIx Z.K) (tVar 0) (tC (.int 3))) (tC (.int 0)))) (tTest (tOp (rEqU Z.K) (tCallS (sp_Ltake Z) (WE W) (tCons (tVar 0) (tCons (tC (.int 6)) tNil))) (tC (.int 0)))))) (tSeq (tIfS (tAnd (tTest (tOp (rEqU Z.K) (tOp (rIx Z.K) (tVar 0) (tC (.int 4))) (tC (.int 1)))) (tTest (tOp (rEqU Z.K) (tCallS (sp_Ltake Z) (WE W) (tCons (tVar 0) (tCons (tC (.int 4)) tNil))) (tC (.int 0))))) (tRet (tCallS (sp_Lother Z) (WE W) (tCons (tVar 0) tNil))) tNext)
    (tRet (tCallS (sp_Lleaf Z) (WE W) (tCons (tVar 0) tNil)))) tNext)
    (tSeq (tAsg (tOp (rAddU Z.K) (tC (.int 8)) (tCallS (sp_Ltake Z) (WE W) (tCons (tVar 0) (tCons (tC (.int 7)) tNil)))) (gName 2))
    (tRet (tTup (tCons (tVar 2) (tCons (tCallS (sp_Ltake Z) (WE W) (tCons (tVar 0) (tCons (tC (.int 90)) tNil))) (tCons (tTup tNil) (tCons (tTup (tCons (tCallS (sp_Lnode Z n) (WE W) (tCons (tVar 0) (tCons (tOp (rAddU Z.K) (tVar 1) (tC (.int 1))) tNil))) (tCons (tCallS (sp_Lnode Z n) (WE W) (tCons (tVar 0) (tCons (tOp (rAddU Z.K) (tVar 1) (tC (.int 1))) tNil))) tNil))) tNil)))))))))
def t_Lworked (Z : Adr) (W : WX) : TS := (tSeq (tIfS (tTest (tOp (rI0 fun i j => .bl (decide (i < j))) (tVar 0) (tC (.int 11)))) (tSeq (tAsg (tOp (rIx Z.K) (tLst (tCons (tOp (rAddU Z.K) (tVar 1) (tVar 2)) (tCons (tOp (rI0 fun i j => .int (i - j)) (tVar 1) (tVar 2)) (tCons (tOp rMul (tVar 1) (tVar 2)) tNil)))) (tOp (rI0 fun i j => .int (i - j)) (tVar 0) (tC (.int 8)))) (gName 3))
    (tSeq (tIfS (tTest (tOp (rI0 fun i j => .bl (decide (j ≤ i))) (tCB rAbs (tCons (tVar 3) tNil)) (tOp rMul (tC (.int 100000000000000000000000000000000000000000000000000)) (tC (.int 100000000000000000000000000000000000000000000000000))))) (tRet (tC .non)) tNext)
    (tRet (tVar 3)))) tNext)
    (tSeq (tIfS (tAnd (tTest (tOp (rI0 fun i j => .bl (decide (i < j))) (tVar 0) (tC (.int 13)))) (tTest (tOp (rEqU Z.K) (tVar 2) (tC (.int 0))))) (tRet (tC .non)) tNext)
    (tSeq (tIfS (tTest (tOp (rEqU Z.K) (tVar 0) (tC (.int 11)))) (tRet (tOp rFdv (tVar 1) (tVar 2))) tNext)
    (tSeq (tIfS (tTest (tOp (rEqU Z.K) (tVar 0) (tC (.int 12)))) (tRet (tOp (rI0 fun i j => .int (i - j)) (tVar 1) (tOp rMul (tOp rFdv (tVar 1) (tVar 2)) (tVar 2)))) tNext)
    (tRet (tCB rInt1 (tCons (tOp (rIx Z.K) (tLst (tCons (tOp (rI0 fun i j => .bl (decide (i < j))) (tVar 1) (tVar 2)) (tCons (tOp (rEqU Z.K) (tVar 1) (tVar 2)) tNil))) (tOp (rI0 fun i j => .int (i - j)) (tVar 0) (tC (.int 13)))) tNil)))))))
def t_Ldue (Z : Adr) (n : Nat) (W : WX) : TS := (tSeq (tAsg (tVar 0) (gUn Z.K 4 (gCons (gName 1) (gCons (gName 2) (gCons (gName 3) (gCons (gName 4) gNil))))))
    (tSeq (tIfS (tTest (tOp (rEqU Z.K) (tVar 1) (tC (.int 0)))) (tRet (tOp (rIx Z.K) (tVar 3) (tC (.int 0)))) tNext)
    (tSeq (tIfS (tOr (tTest (tOp (rI0 fun i j => .bl (decide (i < j))) (tVar 1) (tC (.int 8)))) (tTest (tOp (rI0 fun i j => .bl (decide (j < i))) (tVar 1) (tC (.int 14))))) (tRet (tC .non)) tNext)
    (tSeq (tAsg (tCallS (sp_Ldue Z n) (WE W) (tCons (tOp (rIx Z.K) (tVar 4) (tC (.int 0))) tNil)) (gName 5))
    (tSeq (tAsg (tCallS (sp_Ldue Z n) (WE W) (tCons (tOp (rIx Z.K) (tVar 4) (tC (.int 1))) tNil)) (gName 6))
    (tSeq (tIfS (tOr (tTest (tOp rIsNz (tVar 5) (tC .non))) (tTest (tOp rIsNz (tVar 6) (tC .non)))) (tRet (tC .non)) tNext)
    (tRet (tCallS (sp_Lworked Z) (WE W) (tCons (tVar 1) (tCons (tVar 5) (tCons (tVar 6) tNil)))))))))))
def t_law (Z : Adr) (W : WX) : TS := (tSeq (tAsg (tLst (tCons (tVar 0) (tCons (tC (.int 0)) (tCons (tC (.int 0)) (tCons (tC (.int 0)) (tCons (tC (.int 0)) tNil)))))) (gName 1))
    (tSeq (tFor (iRng1 (tCons (tC (.int 4)) tNil)) (gName 2) (tSeq (tAsg (tC (.int 20)) (gSub (tVar 1) (tC (.int 3)) rSetL))
    (tSeq (tAsg (tCallS (sp_Ltake Z) (WE W) (tCons (tVar 1) (tCons (tC (.int 2)) tNil))) (gSub (tVar 1) (tC (.int 4)) rSetL))
    (tSeq (tAsg (tCallS (sp_Lnode Z 8) (WE W) (tCons (tVar 1) (tCons (tC (.int 1)) tNil))) (gName 3))
    (tSeq (tAsg (tCallS (sp_Ldue Z 10) (WE W) (tCons (tVar 3) tNil)) (gName 4))
    (tSeq (tFor (iRng1 (tCons (tC (.int 2)) tNil)) (gName 5) (tSeq (tAsg (tCallS (sp_fixed Z 10) (WE W) (tCons (tVar 3) tNil)) (gName 6))
    (tIfS (tOr (tTest (tOp (rNeU Z.K) (tVar 6) (tVar 4))) (tB (tCB (rIsi2 Z.K) (tCons (tVar 6) (tCons (tC (.ty "bool")) tNil))))) (tRet (tC (.bl false))) tNext)))
    (tSeq (tAsg (tCallS (sp_Lother Z) (WE W) (tCons (tVar 1) tNil)) (gName 7))
    (tIfS (tOr (tTest (tOp rNotNz (tCallS (sp_fixed Z 10) (WE W) (tCons (tVar 7) tNil)) (tC .non))) (tTest (tOp rNotNz (tCallS (sp_fixed Z 10) (WE W) (tCons (tTup (tCons (tC (.int 8)) (tCons (tC (.int 1)) (tCons (tTup tNil) (tCons (tTup (tCons (tCallS (sp_Lleaf Z) (WE W) (tCons (tVar 1) tNil)) (tCons (tVar 7) tNil))) tNil))))) tNil)) (tC .non)))) (tRet (tC (.bl false))) tNext))))))))
    (tRet (tC (.bl true)))))
end My
namespace My
open PySem L2 Z
theorem rd_summed {Z : Adr} (T : Top Z) {a0 a1 a2 : V} {H : Hp} {Q : VK} {E : XK} (h : q_summed Z a0 a1 a2 H Q E) : t_summed Z (fun cls d _ H => E cls d H) ⟨fun _ H' => Q .non H', Q, fun _ _ => False, fun _ _ => False⟩ [some a0, some a1, some a2, none] H := by
  unfold t_summed
  obtain ⟨i, a, b, rfl, rfl, rfl, ha, hb, q⟩ := h
  have fin : ∀ (z : Int) (t : Addr), H t = none → z = (if i = 8 then a + b else if i = 9 then a - b else a * b) → (if z.natAbs < 10 ^ 100 then Q (.ref t) (upd H t (.tup [.non, .int z])) else Q (.ref t) (upd H t (.tup [.str "great", .int 0]))) := by
    intro z t ht e
    have := q t ht
    unfold sumW at this
    rw [← e] at this
    split
    · rename_i c
      rw [if_pos c] at this
      exact this
    · rename_i c
      rw [if_neg c] at this
      exact this
  have hlog : ∀ z : Int, z = (if i = 8 then a + b else if i = 9 then a - b else a * b) → (if z < 0 then -z else z).natAbs.log2 < 1920 := by
    intro z e
    have h1 : z.natAbs < 2 ^ 800 := by
      have p : (10 : Nat) ^ 100 ≤ 2 ^ 399 := by decide +kernel
      have p2 : (10 : Nat) ^ 100 * 10 ^ 100 ≤ 2 ^ 799 := by decide +kernel
      unfold Fig at ha hb
      have m : (a * b).natAbs < 10 ^ 100 * 10 ^ 100 := by
        rw [Int.natAbs_mul]
        exact Nat.mul_lt_mul'' ha hb
      have p3 : (2 : Nat) ^ 800 = 2 ^ 799 + 2 ^ 799 := by decide +kernel
      have p4 : (2 : Nat) ^ 399 ≤ 2 ^ 799 := by decide +kernel
      generalize (10 : Nat) ^ 100 * 10 ^ 100 = M at *
      generalize (10 : Nat) ^ 100 = L at *
      generalize (2 : Nat) ^ 800 = B8 at *
      generalize (2 : Nat) ^ 799 = B7 at *
      generalize (2 : Nat) ^ 399 = B3 at *
      generalize a * b = ab at *
      split at e
      · omega
      · split at e <;> omega
    have e2 : (if z < 0 then -z else z).natAbs = z.natAbs := by split <;> omega
    rw [e2]
    exact Nat.lt_of_lt_of_le (PySem.Flt.log2_lt_of (k := 800) (by decide) h1) (by decide)
  walk_at "zz"
  refine s_cut (fun σ' H' => H' = H ∧ ∃ z, z = (if i = 8 then a + b else if i = 9 then a - b else a * b) ∧ σ' = [some (.int i), some (.int a), some (.int b), some (.int z)]) ?_ ?_
  · walk_at "zz"
    refine s_ifd (fun c => ?_) (fun c => ?_)
    · walk_at "zz"
      exact ⟨rfl, _, by rw [if_pos c], rfl⟩
    · walk_at "zz"
      refine s_ifd (fun c2 => ?_) (fun c2 => ?_)
      · walk_at "zz"
        exact ⟨rfl, _, by rw [if_neg c, if_pos c2], rfl⟩
      · walk_at "zz"
        refine s_mul (.inr (fig_mul ha hb)) ?_
        walk_at "zz"
        exact ⟨rfl, _, by rw [if_neg c, if_neg c2], rfl⟩
  · rintro σ' H' ⟨rfl, z, e, rfl⟩
    walk_at "zz"
    refine s_strI (hlog z e) ?_
    walk_at "zz"
    refine s_len_s (int_text_fits (hlog z e)) ?_
    have dg := len_digits z
    walk_at "zz"
    refine s_ifd (fun c => ?_) (fun c => ?_)
    · walk_at "zz"
      intro t ht
      have := fin z t ht e
      rw [if_neg (fun c2 => by have := dg.mpr c2; omega)] at this
      exact this
    · walk_at "zz"
      intro t ht
      have := fin z t ht e
      rw [if_pos (dg.mp (by omega))] at this
      exact this

theorem rd_parted_by {Z : Adr} (T : Top Z) {a0 a1 a2 : V} {H : Hp} {Q : VK} {E : XK} (h : q_parted_by Z a0 a1 a2 H Q E) : t_parted_by Z (fun cls d _ H => E cls d H) ⟨fun _ H' => Q .non H', Q, fun _ _ => False, fun _ _ => False⟩ [some a0, some a1, some a2] H := by
  unfold t_parted_by
  obtain ⟨i, a, b, rfl, rfl, rfl, ha, hb, q⟩ := h
  unfold quoW at q
  walk_at "zz"
  refine s_ifd (fun c => ?_) (fun c => ?_)
  · walk_at "zz"
    rw [if_pos c] at q
    exact q
  · have hl : b ≠ 0 ∧ b.natAbs.log2 < 9000 := ⟨c, Nat.lt_trans (fig_log hb) (by decide)⟩
    walk_at "zz"
    rw [if_neg c] at q
    refine s_ifd (fun c2 => ?_) (fun c2 => ?_)
    · rw [if_pos c2] at q
      walk_at "zz"
      refine s_fdv hl ?_
      walk_at "zz"
      exact q
    · rw [if_neg c2] at q
      walk_at "zz"
      refine s_mod c ?_
      walk_at "zz"
      exact q

theorem rd_of_numbers {Z : Adr} (T : Top Z) {a0 a1 : V} {H : Hp} {Q : VK} {E : XK} (h : q_of_numbers Z a0 a1 H Q E) : t_of_numbers Z (fun cls d _ H => E cls d H) ⟨fun _ H' => Q .non H', Q, fun _ _ => False, fun _ _ => False⟩ [some a0, some a1, none, none] H := by
  unfold t_of_numbers
  obtain ⟨i, a, b, lv, rfl, rfl, hl, ha, hb, q⟩ := h
  unfold numW at q
  walk_at "zz"
  intro t0 h0
  walk_at "zz"
  refine s_in_t (SqT.of upd_same) rfl rfl ?_
  walk_at "zz"
  have S0 : Same H (upd H t0 (.tup [.int 8, .int 9, .int 10])) := same_new h0
  refine s_ifk (fun c => ?_) (fun c => ?_)
  · have c' : i = 8 ∨ i = 9 ∨ i = 10 := by simp [inV, eqV] at c; omega
    rw [if_pos c'] at q
    walk_at "zz"
    refine cl_summed ⟨i, a, b, rfl, rfl, rfl, ha, hb, fun t ht => ?_⟩
    exact q t _ (S0.trans (same_new ht)) (S0.free ht) upd_same
  · have c' : ¬ (i = 8 ∨ i = 9 ∨ i = 10) := by simp [inV, eqV] at c; omega
    rw [if_neg c'] at q
    walk_at "zz"
    intro t1 h1
    have S1 : Same H (upd (upd H t0 (.tup [.int 8, .int 9, .int 10])) t1 (.tup [.int 11, .int 12])) := S0.trans (same_new h1)
    walk_at "zz"
    refine s_in_t (SqT.of upd_same) rfl rfl ?_
    walk_at "zz"
    refine s_ifk (fun c2 => ?_) (fun c2 => ?_)
    · have c2' : i = 11 ∨ i = 12 := by simp [inV, eqV] at c2; omega
      rw [if_pos c2'] at q
      walk_at "zz"
      refine cl_parted_by ⟨i, a, b, rfl, rfl, rfl, ha, hb, fun t ht => ?_⟩
      exact q t _ (S1.trans (same_new ht)) (S1.free ht) upd_same
    · have c2' : ¬ (i = 11 ∨ i = 12) := by simp [inV, eqV] at c2; omega
      rw [if_neg c2'] at q
      walk_at "zz"
      refine s_ifd (fun c3 => ?_) (fun c3 => ?_)
      · rw [if_pos c3] at q
        walk_at "zz"
        intro t ht
        refine q t _ (S1.trans (same_new ht)) (S1.free ht) ?_
        rw [upd_same]
        unfold Wo.vs
        by_cases ab : a < b <;> simp [ab]
      · rw [if_neg c3] at q
        walk_at "zz"
        intro t ht
        refine q t _ (S1.trans (same_new ht)) (S1.free ht) ?_
        rw [upd_same]
        unfold Wo.vs
        by_cases ab : a = b <;> simp [ab]

theorem rd_of_row {Z : Adr} (T : Top Z) {a0 a1 a2 : V} {H : Hp} {Q : VK} {E : XK} (h : q_of_row Z a0 a1 a2 H Q E) : t_of_row Z (fun cls d _ H => E cls d H) ⟨fun _ H' => Q .non H', Q, fun _ _ => False, fun _ _ => False⟩ [some a0, some a1, some a2] H := by
  unfold t_of_row
  obtain ⟨i, lv, a, vs, c, rfl, rfl, rfl, h15, h18, hn, nva, hl, ha, hc, q⟩ := h
  have at1 : i ≠ 18 → atI (vs.map V.int) 1 = some (.int (vs.getD 1 0)) := fun h => by
    have hpos : 1 < vs.length := by rw [hn]; unfold partsN; split <;> (try split) <;> (try split) <;> omega
    exact at_of (j := 1) rfl (by match vs, hpos with | _ :: _ :: _, _ => rfl)
  have at2 : i = 17 → atI (vs.map V.int) 2 = some (.int (vs.getD 2 0)) := fun h => by
    have hpos : 2 < vs.length := by rw [hn, h]; decide
    exact at_of (j := 2) rfl (by match vs, hpos with | _ :: _ :: _ :: _, _ => rfl)
  unfold rowW at q
  walk_at "zz"
  refine s_ifd (fun c1 => ?_) (fun c1 => ?_)
  · rw [if_pos c1] at q
    walk_at "zz"
    intro t ht
    rw [List.length_map]
    exact q t _ (But.of (same_new ht)) (up_new ht ha) ht upd_same
  · rw [if_neg c1] at q
    walk_at "zz"
    refine s_ifd (fun c2 => ?_) (fun c2 => ?_)
    · rw [if_pos c2] at q
      walk_at "zz"
      refine s_ix_l (SqL.of hl) (at1 c1) ?_
      walk_at "zz"
      refine c_append ha (Nat.lt_of_lt_of_le (by rw [List.length_map]; exact hc) (by decide)) fun H1 B1 h1 => ?_
      have hl1 := B1.rd nva hl
      walk_at "zz"
      refine s_ix_l (SqL.of hl1) (at1 c1) ?_
      walk_at "zz"
      intro t ht
      refine q t _ (B1.new ht) (up_new ht (by rw [h1, List.map_append]; rfl)) ?_ upd_same
      cases e : H t with
      | none => rfl
      | some o =>
        by_cases z : t = a
        · subst z; rw [h1] at ht; cases ht
        · rw [B1.rd z e] at ht; cases ht
    · rw [if_neg c2] at q
      walk_at "zz"
      refine s_ix_l (SqL.of hl) (at1 c1) ?_
      walk_at "zz"
      have bad : ¬ (0 ≤ vs.getD 1 0 ∧ vs.getD 1 0 < c.length) → ∀ t, H t = none → Q (.ref t) (upd H t (.tup [.str "place", .int 0])) := fun hb t ht => by
        rw [if_neg hb] at q
        exact q t _ (But.of (same_new ht)) (up_new ht ha) ht upd_same
      refine s_ifd (fun c3 => ?_) (fun c3 => ?_)
      · walk_at "zz"
        rw [List.length_map]
        generalize hv : vs.getD 1 0 = v at *
        refine s_ifnn (fun c4 => ?_) (fun c4 => ?_)
        · walk_at "zz"
          exact bad (fun z => c4 z.2)
        · rw [if_pos ⟨c3, c4⟩] at q
          have hx : atI (c.map V.int) v = some (.int (c.getD v.toNat 0)) := by
            refine at_of (j := v.toNat) (by omega) ?_
            rw [List.getElem?_map, List.getD_eq_getElem?_getD, List.getElem?_eq_getElem (by omega)]
            rfl
          walk_at "zz"
          refine s_ifd (fun c5 => ?_) (fun c5 => ?_)
          · rw [if_pos c5] at q
            walk_at "zz"
            refine s_ix_l (SqL.of hl) (at1 c1) ?_
            refine s_ix_l (SqL.of ha) hx ?_
            walk_at "zz"
            intro t ht
            exact q t _ (But.of (same_new ht)) (up_new ht ha) ht upd_same
          · rw [if_neg c5] at q
            have e17 : i = 17 := by omega
            walk_at "zz"
            refine s_ix_l (SqL.of hl) (at2 e17) ?_
            walk_at "zz"
            refine s_ix_l (SqL.of hl) (at1 c1) ?_
            refine c_setL v.toNat ((c.set v.toNat (vs.getD 2 0)).map V.int) ha (by unfold ixN; rw [if_pos c3, if_pos (by rw [List.length_map]; exact c4)]) (by rw [List.map_set]) fun H1 B1 h1 => ?_
            have hl1 := B1.rd nva hl
            walk_at "zz"
            refine s_ix_l (SqL.of hl1) (at2 e17) ?_
            walk_at "zz"
            intro t ht
            refine q t _ (B1.new ht) (up_new ht h1) ?_ upd_same
            cases e : H t with
            | none => rfl
            | some o =>
              by_cases z : t = a
              · subst z; rw [h1] at ht; cases ht
              · rw [B1.rd z e] at ht; cases ht
      · walk_at "zz"
        exact bad (fun z => c3 z.1)

theorem rd_worth {Z : Adr} (T : Top Z) {a0 a1 a2 : V} {H : Hp} {Q : VK} {E : XK} (h : q_worth Z a0 a1 a2 H Q E) : t_worth Z (fun cls d _ H => E cls d H) ⟨fun _ H' => Q .non H', Q, fun _ _ => False, fun _ _ => False⟩ [some a0, some a1, some a2] H := by
  unfold t_worth
  rcases h with ⟨i, a, b, lv, rfl, rfl, h8, h14, hl, ha, hb, q⟩ | ⟨i, lv, lr, vs, as, cs, rfl, rfl, rfl, h15, h19, hn, hl, hA, nv, nlr, hc, hcs, q⟩
  · walk_at "zz"
    refine s_ifd (fun c => ?_) (fun c => by omega)
    walk_at "zz"
    exact cl_of_numbers ⟨i, a, b, lv, rfl, rfl, hl, ha, hb, q⟩
  · walk_at "zz"
    refine s_ifd (fun c => by omega) (fun c => ?_)
    walk_at "zz"
    have hlen : (as.map V.ref).length = cs.length := by rw [List.length_map]; exact hA.len
    have htop := hA.top
    unfold rowsW at q
    refine s_ifd (fun c2 => ?_) (fun c2 => ?_)
    · have e19 : i = 19 := by omega
      rw [if_pos e19] at q
      walk_at "zz"
      intro l hl2
      walk_at "zz"
      refine c_append (up_new hl2 hA.top) (Nat.lt_of_lt_of_le (by omega : _ < 10000000) (by decide)) fun H1 B1 h1 => ?_
      walk_at "zz"
      have nl : l ∉ as := fun z => by
        obtain ⟨j, hj⟩ := List.mem_iff_getElem?.mp z
        obtain ⟨c, _, e⟩ := hA.row j l hj
        rw [hl2] at e; cases e
      have nll : l ≠ lr := (ne_of_none hA.top hl2).symm
      have hA1 : HeapAt H1 lr (as ++ [l]) (cs ++ [[]]) := by
        refine ⟨by rw [h1, List.map_append]; rfl, fun j a hj => ?_, by rw [List.length_append, List.length_append, hA.len]; rfl, ?_, ?_⟩
        · by_cases hjl : j < as.length
          · rw [List.getElem?_append_left hjl] at hj
            obtain ⟨c, e1, e2⟩ := hA.row j a hj
            exact ⟨c, by rw [List.getElem?_append_left (by rw [← hA.len]; exact hjl)]; exact e1, B1 _ _ (.inl fun z => hA.ne (z ▸ List.mem_of_getElem? hj)) (up_new hl2 e2)⟩
          · rw [List.getElem?_append_right (by omega)] at hj
            have hj0 : j - as.length = 0 := by
              have := (List.getElem?_eq_some_iff.mp hj).1
              simp only [List.length_singleton] at this
              omega
            rw [hj0] at hj
            cases hj
            refine ⟨[], by rw [List.getElem?_append_right (by rw [← hA.len]; omega), ← hA.len, hj0]; rfl, B1 _ _ (.inl nll) upd_same⟩
        · rw [List.nodup_append]
          exact ⟨hA.nd, by simp, fun a ha b hb => by cases List.mem_singleton.mp hb; intro z; subst z; exact nl ha⟩
        · intro z
          rcases List.mem_append.mp z with z | z
          · exact hA.ne z
          · exact nll (List.mem_singleton.mp z).symm
      have BB : ∀ b o, ((b ≠ lr ∧ b ∉ as) ∨ Fz o) → H b = some o → H1 b = some o := fun b o n e => B1 b o (n.imp (fun z => z.1) id) (up_new hl2 e)
      have e5 : ((as.map V.ref ++ [V.ref l]).length : Int) - 1 = cs.length := by rw [List.length_append, hlen]; simp
      intro t ht
      rw [e5]
      have B1t : ∀ b o, ((b ≠ lr ∧ b ∉ as) ∨ Fz o) → H b = some o → upd H1 t (.tup [.non, .int (cs.length : Int)]) b = some o := fun b o n e => up_new ht (BB b o n e)
      refine q t (as ++ [l]) _ B1t ⟨up_new ht hA1.top, fun j a hj => ?_, hA1.len, hA1.nd, hA1.ne⟩ ?_ ?_ ?_ ?_
      · obtain ⟨c, e1, e2⟩ := hA1.row j a hj
        exact ⟨c, e1, up_new ht e2⟩
      · intro n hn
        rcases List.mem_append.mp hn with z | z
        · exact .inl z
        · exact .inr (by rw [List.mem_singleton.mp z]; exact hl2)
      · cases e : H t with
        | none => rfl
        | some o =>
          by_cases et : t = lr
          · subst et; rw [hA1.top] at ht; cases ht
          · by_cases em : t ∈ as
            · obtain ⟨j, hj⟩ := List.mem_iff_getElem?.mp em
              obtain ⟨c, _, e'⟩ := hA1.row j t (by rw [List.getElem?_append_left (List.getElem?_eq_some_iff.mp hj).1]; exact hj)
              rw [ht] at e'; cases e'
            · rw [BB t o (.inl ⟨et, em⟩) e] at ht; cases ht
      · intro z
        obtain ⟨j, hj⟩ := List.mem_iff_getElem?.mp z
        obtain ⟨c, _, e'⟩ := hA1.row j t hj
        rw [ht] at e'; cases e'
      · exact upd_same
    · have e19 : i ≠ 19 := by omega
      rw [if_neg e19] at q
      have hpos : 0 < vs.length := by rw [hn]; unfold partsN; split <;> (try split) <;> (try split) <;> omega
      have hv0 : atI (vs.map V.int) 0 = some (.int (vs.getD 0 0)) := at_of (j := 0) rfl (by cases vs with | nil => simp at hpos | cons a r => rfl)
      walk_at "zz"
      refine s_ix_l (SqL.of hl) hv0 ?_
      walk_at "zz"
      have lenr : (as.map V.ref).length = cs.length := by rw [List.length_map]; exact hA.len
      generalize hv : vs.getD 0 0 = v at *
      have bad : ¬ (0 ≤ v ∧ v < cs.length) → ∀ t, H t = none → Q (.ref t) (upd H t (.tup [.str "row", .int 0])) := fun hb t ht => by
        rw [if_neg hb] at q
        refine q t as _ (fun b o _ e => up_new ht e) ⟨up_new ht hA.top, fun j a hj => ?_, hA.len, hA.nd, hA.ne⟩ (fun n hn => .inl hn) ht ?_ upd_same
        · obtain ⟨c, e1, e2⟩ := hA.row j a hj
          exact ⟨c, e1, up_new ht e2⟩
        · intro z
          obtain ⟨j, hj⟩ := List.mem_iff_getElem?.mp z
          obtain ⟨c, _, e⟩ := hA.row j t hj
          rw [ht] at e; cases e
      refine s_ifd (fun c3 => ?_) (fun c3 => ?_)
      · walk_at "zz"
        rw [lenr]
        refine s_ifnn (fun c4 => ?_) (fun c4 => ?_)
        · walk_at "zz"
          exact bad (fun z => c4 z.2)
        · rw [if_pos ⟨c3, c4⟩] at q
          have hj : v.toNat < as.length := by rw [hA.len]; omega
          obtain ⟨c, e1, e2⟩ := hA.row v.toNat as[v.toNat] (List.getElem?_eq_getElem hj)
          generalize ha : as[v.toNat] = a at *
          have hja : as[v.toNat]? = some a := by rw [List.getElem?_eq_getElem hj, ha]
          have hx : atI (as.map V.ref) v = some (.ref a) := at_of (j := v.toNat) (by omega) (by rw [List.getElem?_map, hja]; rfl)
          have ecs : cs.getD v.toNat [] = c := by rw [List.getD_eq_getElem?_getD, e1]; rfl
          rw [ecs] at q
          walk_at "zz"
          refine s_ix_l (SqL.of hl) hv0 ?_
          refine s_ix_l (SqL.of hA.top) hx ?_
          walk_at "zz"
          have ma : a ∈ as := List.mem_of_getElem? hja
          refine cl_of_row ⟨i, lv, a, vs, c, rfl, rfl, rfl, h15, by omega, hn, fun z => nv (z ▸ ma), hl, e2, hcs c (List.mem_of_getElem? e1), fun t H1 B1 h1 ht hT => ?_⟩
          refine q t as H1 (fun b o n e => B1 b o (n.imp (fun z w => z.2 (w ▸ ma)) id) e) ⟨B1.rd (fun z => hA.ne (z ▸ ma)) hA.top, fun j b hb => ?_, by rw [List.length_set]; exact hA.len, hA.nd, hA.ne⟩ (fun n hn => .inl hn) ht ?_ hT
          · obtain ⟨d, d1, d2⟩ := hA.row j b hb
            by_cases hjv : j = v.toNat
            · subst hjv
              rw [hja] at hb
              cases hb
              exact ⟨_, by rw [List.getElem?_set_self (by rw [← hA.len]; exact hj)], h1⟩
            · have nb : b ≠ a := fun z => hjv (nd_ix hA.nd (z ▸ hb) hja)
              exact ⟨d, by rw [List.getElem?_set_ne (fun z => hjv z.symm)]; exact d1, B1.rd nb d2⟩
          · intro z
            obtain ⟨j, hj⟩ := List.mem_iff_getElem?.mp z
            obtain ⟨d, _, e⟩ := hA.row j t hj
            rw [ht] at e; cases e
      · walk_at "zz"
        exact bad (fun z => c3 z.1)

theorem rd_fixed {Z : Adr} (T : Top Z) {n : Nat} {a0 : V} {H : Hp} {Q : VK} {E : XK} (h : q_fixed Z (n + 1) a0 H Q E) : t_fixed Z n (fun cls d _ H => E cls d H) ⟨fun _ H' => Q .non H', Q, fun _ _ => False, fun _ _ => False⟩ [some a0, none, none, none, none, none, none, none, none] H := by
  unfold t_fixed
  obtain ⟨nd, hN, hf, hd, q⟩ := h
  obtain ⟨k, p, ns, ps⟩ := nd
  obtain ⟨t, tn, tp, vs, rfl, h1, h2, h3, h4⟩ := hN
  unfold fixN at q
  unfold Nd.fdep at hd
  obtain ⟨hf0, hf8⟩ := hf
  walk_at "zz"
  refine s_ifd (fun c => ?_) (fun c => ?_)
  · rw [if_pos c] at q
    obtain ⟨x, r, e, f⟩ := hf0 c
    subst e
    walk_at "zz"
    refine s_ix_t (SqT.of h2) (v := .int x) (at_of (j := 0) rfl rfl) ?_
    exact q H (Same.refl H)
  · rw [if_neg c] at q
    have bad : (k < 8 ∨ 14 < k) → Q .non H := fun z => by rw [if_pos z] at q; exact q H (Same.refl H)
    walk_at "zz"
    refine s_ifd (fun c1 => ?_) (fun c1 => ?_)
    · walk_at "zz"
      exact bad (.inl c1)
    · walk_at "zz"
      refine s_ifd (fun c2 => ?_) (fun c2 => ?_)
      · walk_at "zz"
        exact bad (.inr c2)
      · rw [if_neg (by omega)] at q
        rw [if_pos ⟨by omega, by omega⟩] at hd
        obtain ⟨hlen, hfa⟩ := hf8 ⟨by omega, by omega⟩
        walk_at "zz"
        intro l hl
        walk_at "zz"
        refine loop_tup vs (fun i σ' H' => Same H H' ∧ ∃ (ws : List Int) (x : Option V), H' l = some (.lst (ws.map V.int)) ∧ fixNs (ps.take i) = some ws ∧ σ' = [some (.ref t), some (.int k), some (.int p), some (.ref tn), some (.ref tp), some (.ref l), x, none, none]) ⟨same_new hl, [], _, upd_same, by simp [fixNs], rfl⟩ (fun i σ' H' _ h => SqT.of (h.1 _ _ h3)) ?_ ?_
        · rintro i v σ' H' hv ⟨S, ws, x, hw, e, rfl⟩
          obtain ⟨m, em, hm⟩ := (h4.mono (TupS.of S)).get hv
          have fm := fitAll_get hfa em
          have key := fixNs_take em e
          have wl := fixNs_len e
          walk_at "zz"
          refine cl_fixed ⟨m, hm, fm, by have := fdeps_get em; omega, fun H2 S2 => ?_⟩
          have hi : i < 2 := by
            have := (List.getElem?_eq_some_iff.mp em).1
            omega
          walk_at "zz"
          refine c_append (S2 _ _ hw) (small1000 (by rw [List.length_map, wl, List.length_take]; omega)) fun H3 B3 h3' => ?_
          have S3 : Same H H3 := same_own (S.trans S2) B3 hl
          walk_at "zz"
          refine s_ix_l (SqL.of h3') (atI_last _ _) ?_
          cases ef : fixN m with
          | none =>
            walk_at "zz"
            refine s_isN_n ?_
            walk_at "zz"
            rw [key.2 ef] at q
            exact q H3 S3
          | some a =>
            walk_at "zz"
            refine s_isN_i ?_
            walk_at "zz"
            exact ⟨S3, ws ++ [a], _, by rw [h3', ef, List.map_append]; rfl, key.1 a ef, rfl⟩
        · rintro σ' H' ⟨S, ws, x, hw, e, rfl⟩
          rw [h4.len, List.take_length] at e
          have wl := fixNs_len e
          obtain ⟨a, b, rfl⟩ : ∃ a b, ws = [a, b] := by
            match ws, wl.trans hlen with
            | [a, b], _ => exact ⟨a, b, rfl⟩
          have fg := fixNs_fig hfa e
          rw [e] at q
          dsimp only at q
          walk_at "zz"
          intro lr hlr
          walk_at "zz"
          refine cl_worth (.inl ⟨k, a, b, l, rfl, rfl, by omega, by omega, up_new hlr hw, fg a (by simp), fg b (by simp), fun t2 H2 S2 ht2 hT => ?_⟩)
          have SS := (S.trans (same_new (o := .lst []) hlr)).trans S2
          have qq := q H2 SS
          cases ew : numW k a b with
          | ok v =>
            rw [ew] at qq hT
            refine s_gun_t (xs := [.non, .int v]) (SqT.of hT) rfl ?_
            walk_at "zz"
            exact qq
          | flt s =>
            rw [ew] at qq hT
            refine s_gun_t (xs := [.str s, .int 0]) (SqT.of hT) rfl ?_
            walk_at "zz"
            exact qq

theorem rd_Lcell {Z : Adr} (T : Top Z) {a0 a1 : V} {H : Hp} {Q : VK} {E : XK} (h : q_Lcell Z a0 a1 H Q E) : t_Lcell Z (fun cls d _ H => E cls d H) ⟨fun _ H' => Q .non H', Q, fun _ _ => False, fun _ _ => False⟩ [some a0, some a1] H := by
  unfold t_Lcell
  obtain ⟨sa, ns, k, rfl, rfl, hS, h0, q⟩ := h
  have hl := hS.sq
  walk_at "zz"
  refine s_ifd (fun c => ?_) (fun c => ?_)
  · walk_at "zz"
    rw [List.length_map] at c
    obtain ⟨v, hv⟩ : ∃ v, ns[k.toNat]? = some v := ⟨ns[k.toNat]'(by omega), List.getElem?_eq_getElem _⟩
    refine s_ix_l hl (at_of (j := k.toNat) (v := .int v) (by omega) (by rw [List.getElem?_map, hv]; rfl)) ?_
    exact q _
  · walk_at "zz"
    exact q _

theorem rd_Ltake {Z : Adr} (T : Top Z) {a0 a1 : V} {H : Hp} {Q : VK} {E : XK} (h : q_Ltake Z a0 a1 H Q E) : t_Ltake Z (fun cls d _ H => E cls d H) ⟨fun _ H' => Q .non H', Q, fun _ _ => False, fun _ _ => False⟩ [some a0, some a1, none, none, none, none, none] H := by
  unfold t_Ltake
  obtain ⟨p, m, rfl, rfl, hm, hm2, hSt, q⟩ := h
  obtain ⟨sa, ns, k, l, b, f, hS, hk, hl, hp⟩ := hSt
  walk_at "zz"
  intro l0 hl0
  have np : p ≠ l0 := ne_of_none hp hl0
  have S0 : Same H (upd H l0 (.lst (cutV [V.ref sa, .int k, .int l, .int b, .int f] none (some 3)))) := same_new hl0
  have hp0 := S0 _ _ hp
  have hS0 := hS.same S0
  have hl' := hS0.sq
  refine s_gun_l (xs := [V.ref sa, .int k, .int l]) (SqL.of (upd_same (o := .lst [V.ref sa, .int k, .int l]))) rfl ?_
  walk_at "zz"
  have B0 : But p H (upd H l0 (.lst (cutV [V.ref sa, .int k, .int l, .int b, .int f] none (some 3)))) := But.of S0
  generalize upd H l0 (.lst (cutV [V.ref sa, .int k, .int l, .int b, .int f] none (some 3))) = H0 at *
  refine s_cut (fun σ' H' => ∃ k' l' l2 x5 x6, But p H H' ∧ H' p = some (.lst [.ref sa, .int k', .int l2, .int b, .int f]) ∧ 0 ≤ k' ∧ 0 ≤ l' ∧ 0 ≤ l2 ∧ σ' = [some (.ref p), some (.int m), some (.ref sa), some (.int k), some (.int l'), x5, x6]) ?_ ?_
  · walk_at "zz"
    refine s_ifd (fun c => ?_) (fun c => ?_)
    · walk_at "zz"
      refine cl_Lcell ⟨sa, ns, k % 63, rfl, rfl, hS0, by omega, fun i => ?_⟩
      walk_at "zz"
      refine c_setL 1 [.ref sa, .int (k + 1), .int l, .int b, .int f] hp0 rfl rfl fun H1 B1 hp1 => ?_
      have hS1 := hS0.but B1
      have hl1 := hS1.sq
      walk_at "zz"
      have fin := fun v (a : 0 ≤ v) (b' : v < m) => q v H1 a b' ⟨sa, ns, k + 1, l, b, f, hS1, by omega, hl, hp1⟩ (B0.trans B1)
      refine s_ifd (fun c1 => ?_) (fun c1 => ?_)
      · walk_at "zz"
        refine s_ifd (fun c2 => ?_) (fun c2 => ?_)
        · walk_at "zz"
          exact ⟨k + 1, i, l, _, _, B0.trans B1, hp1, by omega, by omega, hl, rfl⟩
        · walk_at "zz"
          exact fin _ (Int.emod_nonneg _ (by omega)) (Int.emod_lt_of_pos _ hm)
      · walk_at "zz"
        exact fin _ (Int.emod_nonneg _ (by omega)) (Int.emod_lt_of_pos _ hm)
    · walk_at "zz"
      exact ⟨k, l, l, _, _, B0, hp0, hk, hl, hl, rfl⟩
  · rintro σ' H' ⟨k', l', l2, x5, x6, B, hp', hk', hl2, hl3, rfl⟩
    walk_at "zz"
    refine c_setL 2 [.ref sa, .int k', .int (l' / m), .int b, .int f] hp' rfl rfl fun H2 B2 hp2 => ?_
    walk_at "zz"
    exact q _ _ (Int.emod_nonneg _ (by omega)) (Int.emod_lt_of_pos _ hm) ⟨sa, ns, k', l' / m, b, f, hS.but (B.trans B2), hk', Int.ediv_nonneg hl2 (by omega), hp2⟩ (B.trans B2)

theorem rd_Lnumber {Z : Adr} (T : Top Z) {a0 : V} {H : Hp} {Q : VK} {E : XK} (h : q_Lnumber Z a0 H Q E) : t_Lnumber Z (fun cls d _ H => E cls d H) ⟨fun _ H' => Q .non H', Q, fun _ _ => False, fun _ _ => False⟩ [some a0, none, none] H := by
  unfold t_Lnumber
  obtain ⟨p, rfl, hSt, q⟩ := h
  have fig : ∀ v : Int, -10 ^ 90 < v → v < 10 ^ 90 → Fig v := by
    intro v a b
    have p1 : (10 : Int) ^ 90 ≤ 10 ^ 100 := by decide +kernel
    have p2 : ((10 ^ 100 : Nat) : Int) = 10 ^ 100 := by decide +kernel
    unfold Fig
    omega
  walk_at "zz"
  refine cl_Ltake ⟨p, 9, rfl, rfl, by omega, by omega, hSt, fun v H1 v0 v1 S1 B1 => ?_⟩
  walk_at "zz"
  refine s_ifd (fun c => ?_) (fun c => ?_)
  · walk_at "zz"
    refine cl_Ltake ⟨p, 9, rfl, rfl, by omega, by omega, S1, fun v2 H2 v20 v21 S2 B2 => ?_⟩
    walk_at "zz"
    exact q _ _ (fig _ (by omega) (by omega)) S2 (B1.trans B2)
  · walk_at "zz"
    intro l hl
    walk_at "zz"
    obtain ⟨w, hw, ew⟩ := at_ints [10 ^ 60 - 1, 10 ^ 49, 10 ^ 50] (i := v - 6) (by omega) (by show v - 6 < 3; omega)
    refine s_ix_l (SqL.of upd_same) ew ?_
    have hw2 : -10 ^ 70 < w ∧ w < 10 ^ 70 := by
      simp only [List.mem_cons, List.not_mem_nil, or_false] at hw
      rcases hw with e | e | e <;> subst e <;> decide +kernel
    walk_at "zz"
    refine cl_Ltake ⟨p, 3, rfl, rfl, by omega, by omega, S1.new hl, fun v2 H2 v20 v21 S2 B2 => ?_⟩
    walk_at "zz"
    intro l3 hl3
    walk_at "zz"
    refine cl_Ltake ⟨p, 2, rfl, rfl, by omega, by omega, S2.new hl3, fun v4 H4 v40 v41 S4 B4 => ?_⟩
    have hl4 := B4.rd (S2.ne hl3) upd_same
    obtain ⟨w3, hw3, ew3⟩ := at_ints [1, -1] (i := v4) (by omega) (by show v4 < 2; omega)
    refine s_ix_l (SqL.of hl4) ew3 ?_
    have hw3' : w3 = 1 ∨ w3 = -1 := by simpa using hw3
    walk_at "zz"
    refine q _ _ (fig _ ?_ ?_) S4 ((((B1.new hl).trans B2).new hl3).trans B4)
    all_goals
      have p1 : (10 : Int) ^ 70 + 100 ≤ 10 ^ 90 := by decide +kernel
      generalize (10 : Int) ^ 70 = X at *
      generalize (10 : Int) ^ 90 = Y at *
      rcases hw3' with e | e <;> subst e <;> omega

theorem rd_Lleaf {Z : Adr} (T : Top Z) {a0 : V} {H : Hp} {Q : VK} {E : XK} (h : q_Lleaf Z a0 H Q E) : t_Lleaf Z (fun cls d _ H => E cls d H) ⟨fun _ H' => Q .non H', Q, fun _ _ => False, fun _ _ => False⟩ [some a0] H := by
  unfold t_Lleaf
  obtain ⟨p, rfl, hSt, q⟩ := h
  walk_at "zz"
  refine cl_Ltake ⟨p, 90, rfl, rfl, by omega, by omega, hSt, fun v H1 v0 v1 S1 B1 => ?_⟩
  walk_at "zz"
  refine cl_Lnumber ⟨p, rfl, S1, fun x H2 fx S2 B2 => ?_⟩
  walk_at "zz"
  intro tn htn
  walk_at "zz"
  intro tp htp
  walk_at "zz"
  intro t ht
  refine q v x _ _ ⟨t, tn, tp, [], rfl, upd_same, up_new ht (up_new htp upd_same), up_new ht upd_same, rfl⟩ fx (((S2.new htn).new htp).new ht) ((((B1.trans B2).new htn).new htp).new ht)

theorem rd_Lother {Z : Adr} (T : Top Z) {a0 : V} {H : Hp} {Q : VK} {E : XK} (h : q_Lother Z a0 H Q E) : t_Lother Z (fun cls d _ H => E cls d H) ⟨fun _ H' => Q .non H', Q, fun _ _ => False, fun _ _ => False⟩ [some a0, none, none, none, none, none] H := by
  unfold t_Lother
  obtain ⟨p, rfl, hSt, q⟩ := h
  walk_at "zz"
  intro l hl
  walk_at "zz"
  refine cl_Ltake ⟨p, 12, rfl, rfl, by omega, by omega, hSt.new hl, fun v H1 v0 v1 S1 B1 => ?_⟩
  have hl1 := B1.rd (hSt.ne hl) upd_same
  obtain ⟨k, hk, ek⟩ := at_ints [1, 2, 3, 4, 5, 6, 7, 15, 16, 17, 18, 19] (i := v) v0 (by show v < 12; omega)
  refine s_ix_l (SqL.of hl1) ek ?_
  have hk' : 1 ≤ k ∧ k ≤ 19 ∧ (k < 8 ∨ 14 < k) := by simp at hk; omega
  walk_at "zz"
  intro l2 hl2
  walk_at "zz"
  obtain ⟨mny, hm, em⟩ := at_ints [0, 0, 1, 2, 3, 2, 1, 1, 0, 0, 0, 0, 0, 0, 0, 2, 2, 3, 1, 0] (i := k) (by omega) (by show k < 20; omega)
  refine s_ix_l (SqL.of upd_same) em ?_
  have hm' : 0 ≤ mny ∧ mny ≤ 3 := by simp at hm; omega
  have B2 : But p H (upd H1 l2 (.lst ([0, 0, 1, 2, 3, 2, 1, 1, 0, 0, 0, 0, 0, 0, 0, 2, 2, 3, 1, 0].map V.int))) := ((But.refl p H).new hl).trans (B1.new hl2)
  have S2 := S1.new (o := .lst ([0, 0, 1, 2, 3, 2, 1, 1, 0, 0, 0, 0, 0, 0, 0, 2, 2, 3, 1, 0].map V.int)) hl2
  walk_at "zz"
  intro tn htn
  walk_at "zz"
  have S3 := S2.new (o := .tup []) htn
  have B3 := B2.new (o := .tup []) htn
  have htn' : (upd (upd H1 l2 (.lst ([0, 0, 1, 2, 3, 2, 1, 1, 0, 0, 0, 0, 0, 0, 0, 2, 2, 3, 1, 0].map V.int))) tn (.tup [])) tn = some (.tup []) := upd_same
  refine s_cut (fun σ' H' => ∃ (t2 : Addr) (ns : List Int) (x4 : Option V), St5 Z.K H' p ∧ But p H H' ∧ H' t2 = some (.tup (ns.map V.int)) ∧ σ' = [some (.ref p), some (.int k), some (.int mny), some (.ref t2), x4, none]) ?_ ?_
  · walk_at "zz"
    intro t3 ht3
    walk_at "zz"
    refine s_in_t (SqT.of upd_same) rfl rfl ?_
    walk_at "zz"
    refine s_ifk (fun c => ?_) (fun c => ?_)
    · have c' : k ≤ 6 := by simp [inV, eqV] at c; omega
      walk_at "zz"
      intro l4 hl4
      walk_at "zz"
      obtain ⟨x, _, ex⟩ := at_ints [0, 0, 0, 2, 2, 0, 1] (i := k) (by omega) (by show k < 7; omega)
      refine s_ix_l (SqL.of upd_same) ex ?_
      walk_at "zz"
      intro t5 ht5
      walk_at "zz"
      exact ⟨t5, [x], _, ((S3.new ht3).new hl4).new ht5, ((B3.new ht3).new hl4).new ht5, upd_same, rfl⟩
    · walk_at "zz"
      exact ⟨tn, [], _, S3.new ht3, B3.new ht3, up_new ht3 htn', rfl⟩
  · rintro σ' H' ⟨t2, ns, x4, S4, B4, h2, rfl⟩
    walk_at "zz"
    refine cl_Ltake ⟨p, 90, rfl, rfl, by omega, by omega, S4, fun pl H5 v50 v51 S5 B5 => ?_⟩
    have h25 := (S4.tups B5) _ _ h2
    walk_at "zz"
    refine lc_rng (fun D j H' => St5 Z.K H' p ∧ But p H5 H' ∧ ∃ vs ps, H' D = some (.lst vs) ∧ NodesAt H' ps vs ∧ vs.length = j) (fun D hD => ⟨S5.new hD, (But.refl p H5).new hD, [], [], upd_same, rfl, rfl⟩) ?_ ?_
    · rintro D j H6 hD hj ⟨S6, B6, vs, ps, hv, hn, hl⟩
      walk_at "zz"
      refine cl_Lleaf ⟨p, rfl, S6, fun pl2 x v7 H7 hN fx S7 B7 => ?_⟩
      have nD : D ≠ p := S5.ne hD
      have hv7 := B7.rd nD hv
      refine c_acc hv7 (small1000 (by omega)) fun H8 B8 h8 => ?_
      have TT : TupS H7 H8 := TupS.but B8 hv7 fun ys e => by cases e
      exact ⟨S7.but B8 nD.symm, (B6.trans B7).own B8 hD, _, ps ++ [.mk 0 pl2 [x] []], h8, ((hn.mono (S6.tups B7)).mono TT).app (hN.mono TT), by rw [List.length_append, hl]; rfl⟩
    · rintro D H6 hD ⟨S6, B6, vs, ps, hv, hn, hl⟩
      walk_at "zz"
      intro tp htp
      walk_at "zz"
      intro t ht
      have T6 := S5.tups B6
      refine q k pl ns ps _ _ ⟨t, t2, tp, vs, rfl, upd_same, up_new ht (up_new htp (T6 _ _ h25)), up_new ht upd_same, (hn.mono (TupS.new htp)).mono (TupS.new ht)⟩ (by omega) hk'.2.2 ((S6.new htp).new ht) ((((B4.trans B5).trans B6).new htp).new ht)

theorem rd_Lnode {Z : Adr} (T : Top Z) {n : Nat} {a0 a1 : V} {H : Hp} {Q : VK} {E : XK} (h : q_Lnode Z (n + 1) a0 a1 H Q E) : t_Lnode Z n (fun cls d _ H => E cls d H) ⟨fun _ H' => Q .non H', Q, fun _ _ => False, fun _ _ => False⟩ [some a0, some a1, none] H := by
  unfold t_Lnode
  obtain ⟨p, d, rfl, rfl, h1, h6, hn, hSt, q⟩ := h
  obtain ⟨sa, ns, k, l, b, f, hS, hk, hl, hp⟩ := hSt
  walk_at "zz"
  refine s_ix_l (SqL.of hp) (v := .int b) rfl ?_
  walk_at "zz"
  refine c_setL 3 [.ref sa, .int k, .int l, .int (b - 1), .int f] hp rfl rfl fun H1 B1 hp1 => ?_
  have S1 : St5 Z.K H1 p := ⟨sa, ns, k, l, b - 1, f, hS.but B1, hk, hl, hp1⟩
  have leaf : ∀ (H2 : Hp), St5 Z.K H2 p → But p H H2 → ∀ pl x v H', NodeAt H' (.mk 0 pl [x] []) v → Fig x → St5 Z.K H' p → But p H2 H' → Q v H' := fun H2 S2 B2 pl x v H' hN fx S3 B3 =>
    q _ v H' hN ⟨fun _ => ⟨x, [], rfl, fx⟩, fun z => by omega⟩ (by unfold Nd.fdep; rw [if_neg (by omega)]; omega) S3 (B2.trans B3)
  have ends : ∀ (H2 : Hp) (N0 b0 c0 : L2.St → Hp → Prop), St5 Z.K H2 p → But p H H2 → tSeq (tIfS (tAnd (tTest (tOp (rEqU Z.K) (tOp (rIx Z.K) (tVar 0) (tC (.int 4))) (tC (.int 1)))) (tTest (tOp (rEqU Z.K) (tCallS (sp_Ltake Z) (WE (fun cls d _ H => E cls d H)) (tCons (tVar 0) (tCons (tC (.int 4)) tNil))) (tC (.int 0))))) (tRet (tCallS (sp_Lother Z) (WE (fun cls d _ H => E cls d H)) (tCons (tVar 0) tNil))) tNext)
      (tRet (tCallS (sp_Lleaf Z) (WE (fun cls d _ H => E cls d H)) (tCons (tVar 0) tNil))) ⟨N0, Q, b0, c0⟩ [some (.ref p), some (.int d), none] H2 := by
    intro H2 N0 b0 c0 S2 B2
    obtain ⟨sa2, ns2, k2, l2, b2, f2, hS2, hk2, hl2, hp2⟩ := id S2
    walk_at "zz"
    refine s_ix_l (SqL.of hp2) (v := .int f2) rfl ?_
    walk_at "zz"
    refine s_ifd (fun c => ?_) (fun c => ?_)
    · walk_at "zz"
      refine cl_Ltake ⟨p, 4, rfl, rfl, by omega, by omega, S2, fun v3 H3 v30 v31 S3 B3 => ?_⟩
      walk_at "zz"
      refine s_ifd (fun c => ?_) (fun c => ?_)
      · walk_at "zz"
        refine cl_Lother ⟨p, rfl, S3, fun k pl ns ps v H' hN h0 h8 S4 B4 => ?_⟩
        exact q _ v H' hN ⟨fun z => absurd z h0, fun z => by omega⟩ (by unfold Nd.fdep; rw [if_neg (by omega)]; omega) S4 ((B2.trans B3).trans B4)
      · walk_at "zz"
        exact cl_Lleaf ⟨p, rfl, S3, leaf H3 S3 (B2.trans B3)⟩
    · walk_at "zz"
      exact cl_Lleaf ⟨p, rfl, S2, leaf H2 S2 B2⟩
  walk_at "zz"
  refine s_ifd (fun c => ?_) (fun c => ?_)
  · refine s_ift ?_
    exact ends _ _ _ _ S1 B1
  · walk_at "zz"
    refine s_ix_l (SqL.of hp1) (v := .int (b - 1)) rfl ?_
    walk_at "zz"
    refine s_ifd (fun c1 => ?_) (fun c1 => ?_)
    · refine s_ift ?_
      exact ends _ _ _ _ S1 B1
    · walk_at "zz"
      refine cl_Ltake ⟨p, 6, rfl, rfl, by omega, by omega, S1, fun v2 H2 v20 v21 S2 B2 => ?_⟩
      walk_at "zz"
      refine s_ifd (fun c2 => ?_) (fun c2 => ?_)
      · exact ends _ _ _ _ S2 (B1.trans B2)
      · walk_at "zz"
        refine cl_Ltake ⟨p, 7, rfl, rfl, by omega, by omega, S2, fun v3 H3 v30 v31 S3 B3 => ?_⟩
        walk_at "zz"
        refine cl_Ltake ⟨p, 90, rfl, rfl, by omega, by omega, S3, fun pl H4 v40 v41 S4 B4 => ?_⟩
        walk_at "zz"
        intro tn htn
        walk_at "zz"
        refine cl_Lnode ⟨p, d + 1, rfl, rfl, by omega, by omega, by omega, S4.new htn, fun n1 v5 H5 hN5 f5 d5 S5 B5 => ?_⟩
        have tn5 := ((S4.new (o := .tup []) htn).tups B5) _ _ upd_same
        walk_at "zz"
        refine cl_Lnode ⟨p, d + 1, rfl, rfl, by omega, by omega, by omega, S5, fun n2 v6 H6 hN6 f6 d6 S6 B6 => ?_⟩
        have T6 := S5.tups B6
        walk_at "zz"
        intro tp htp
        walk_at "zz"
        intro t ht
        refine q (.mk (8 + v3) pl [] [n1, n2]) _ _ ⟨t, tn, tp, [v5, v6], rfl, upd_same, up_new ht (up_new htp (T6 _ _ tn5)), up_new ht upd_same, ⟨v5, [v6], rfl, ((hN5.mono T6).mono (TupS.new htp)).mono (TupS.new ht), v6, [], rfl, (hN6.mono (TupS.new htp)).mono (TupS.new ht), rfl⟩⟩ ⟨fun z => by omega, fun _ => ⟨rfl, f5, f6, trivial⟩⟩ ?_ ((S6.new htp).new ht) (((((((B1.trans B2).trans B3).trans B4).new htn).trans B5).trans B6).new htp |>.new ht)
        unfold Nd.fdep
        rw [if_pos (by omega)]
        simp only [fdeps]
        omega

theorem rd_Lworked {Z : Adr} (T : Top Z) {a0 a1 a2 : V} {H : Hp} {Q : VK} {E : XK} (h : q_Lworked Z a0 a1 a2 H Q E) : t_Lworked Z (fun cls d _ H => E cls d H) ⟨fun _ H' => Q .non H', Q, fun _ _ => False, fun _ _ => False⟩ [some a0, some a1, some a2, none] H := by
  unfold t_Lworked
  obtain ⟨i, a, b, rfl, rfl, rfl, h8, h14, fa, fb, q⟩ := h
  have p1 : 2 ≤ 10 ^ 100 := by decide +kernel
  have pc : (100000000000000000000000000000000000000000000000000 * 100000000000000000000000000000000000000000000000000 : Int) = ((10 ^ 100 : Nat) : Int) := by decide +kernel
  have f50 : Fig 100000000000000000000000000000000000000000000000000 := by unfold Fig; decide +kernel
  unfold numW at q
  walk_at "zz"
  refine s_ifd (fun c => ?_) (fun c => ?_)
  · rw [if_pos (by omega)] at q
    walk_at "zz"
    refine s_mul (.inr (fig_mul fa fb)) ?_
    walk_at "zz"
    intro l hl
    walk_at "zz"
    obtain ⟨w, ew, hw⟩ : ∃ w, atI [V.int (a + b), .int (a - b), .int (a * b)] (i - 8) = some (.int w) ∧ sumW i a b = if w.natAbs < 10 ^ 100 then .ok w else .flt "great" := by
      unfold sumW
      have : i = 8 ∨ i = 9 ∨ i = 10 := by omega
      rcases this with e | e | e <;> subst e <;> exact ⟨_, rfl, rfl⟩
    refine s_ix_l (SqL.of upd_same) ew ?_
    walk_at "zz"
    refine s_mul (.inr (fig_mul f50 f50)) ?_
    walk_at "zz"
    rw [hw] at q
    refine s_ifd (fun c2 => ?_) (fun c2 => ?_)
    · walk_at "zz"
      rw [pc] at c2
      rw [if_neg (by generalize (10 : Nat) ^ 100 = X at *; split at c2 <;> omega)] at q
      exact q _ (same_new hl)
    · walk_at "zz"
      rw [pc] at c2
      rw [if_pos (by generalize (10 : Nat) ^ 100 = X at *; split at c2 <;> omega)] at q
      exact q _ (same_new hl)
  · rw [if_neg (by omega)] at q
    unfold quoW at q
    walk_at "zz"
    have z : b = 0 → i < 13 → Q .non H := fun z1 z2 => by
      rw [if_pos (by omega), if_pos z1] at q
      exact q H (Same.refl H)
    refine s_ifd (fun c1 => ?_) (fun c1 => ?_)
    · walk_at "zz"
      refine s_ifd (fun c2 => ?_) (fun c2 => ?_)
      · walk_at "zz"
        exact z c2 c1
      · have hl : b ≠ 0 ∧ b.natAbs.log2 < 9000 := ⟨c2, Nat.lt_trans (fig_log fb) (by decide)⟩
        rw [if_pos (by omega), if_neg c2] at q
        walk_at "zz"
        refine s_ifd (fun c3 => ?_) (fun c3 => ?_)
        · rw [if_pos c3] at q
          walk_at "zz"
          refine s_fdv hl ?_
          walk_at "zz"
          exact q _ (Same.refl H)
        · rw [if_neg c3] at q
          walk_at "zz"
          refine s_ifdt (by omega) ?_
          walk_at "zz"
          refine s_fdv hl ?_
          walk_at "zz"
          refine s_mul (.inr (fig_mul (Nat.lt_of_le_of_lt (Int.natAbs_fdiv_le_natAbs a b) fa) fb)) ?_
          walk_at "zz"
          rw [Int.fmod_def, Int.mul_comm b] at q
          exact q _ (Same.refl H)
    · rw [if_neg (by omega)] at q
      walk_at "zz"
      refine s_ifdf (by omega) ?_
      walk_at "zz"
      refine s_ifdf (by omega) ?_
      walk_at "zz"
      intro l hl
      walk_at "zz"
      have : i = 13 ∨ i = 14 := by omega
      rcases this with e | e
      · subst e
        rw [if_pos rfl] at q
        refine s_ix_l (v := .bl (decide (a < b))) (SqL.of upd_same) rfl ?_
        walk_at "zz"
        have := q _ (same_new (o := .lst [.bl (decide (a < b)), .bl (decide (a = b))]) hl)
        by_cases d : a < b
        · rw [if_pos d] at this; rw [decide_eq_true d] at this ⊢; exact this
        · rw [if_neg d] at this; rw [decide_eq_false d] at this ⊢; exact this
      · subst e
        rw [if_neg (by omega)] at q
        refine s_ix_l (v := .bl (decide (a = b))) (SqL.of upd_same) rfl ?_
        walk_at "zz"
        have := q _ (same_new (o := .lst [.bl (decide (a < b)), .bl (decide (a = b))]) hl)
        by_cases d : a = b
        · rw [if_pos d] at this; rw [decide_eq_true d] at this ⊢; exact this
        · rw [if_neg d] at this; rw [decide_eq_false d] at this ⊢; exact this

theorem rd_Ldue {Z : Adr} (T : Top Z) {n : Nat} {a0 : V} {H : Hp} {Q : VK} {E : XK} (h : q_Ldue Z (n + 1) a0 H Q E) : t_Ldue Z n (fun cls d _ H => E cls d H) ⟨fun _ H' => Q .non H', Q, fun _ _ => False, fun _ _ => False⟩ [some a0, none, none, none, none, none, none] H := by
  unfold t_Ldue
  obtain ⟨nd, hN, hf, hd, q⟩ := h
  obtain ⟨k, p, ns, ps⟩ := nd
  obtain ⟨t, tn, tp, vs, rfl, h1, h2, h3, h4⟩ := hN
  unfold fixN at q
  unfold Nd.fdep at hd
  obtain ⟨hf0, hf8⟩ := hf
  walk_at "zz"
  refine s_ifd (fun c => ?_) (fun c => ?_)
  · rw [if_pos c] at q
    obtain ⟨x, r, e, f⟩ := hf0 c
    subst e
    walk_at "zz"
    refine s_ix_t (SqT.of h2) (v := .int x) (at_of (j := 0) rfl rfl) ?_
    exact q H (Same.refl H)
  · rw [if_neg c] at q
    have bad : (k < 8 ∨ 14 < k) → Q .non H := fun z => by rw [if_pos z] at q; exact q H (Same.refl H)
    walk_at "zz"
    refine s_ifd (fun c1 => ?_) (fun c1 => ?_)
    · walk_at "zz"
      exact bad (.inl c1)
    · walk_at "zz"
      refine s_ifd (fun c2 => ?_) (fun c2 => ?_)
      · walk_at "zz"
        exact bad (.inr c2)
      · rw [if_neg (by omega)] at q
        rw [if_pos ⟨by omega, by omega⟩] at hd
        obtain ⟨hlen, hfa⟩ := hf8 ⟨by omega, by omega⟩
        obtain ⟨n1, n2, rfl⟩ : ∃ n1 n2, ps = [n1, n2] := by
          match ps, hlen with
          | [a, b], _ => exact ⟨a, b, rfl⟩
        obtain ⟨v1, r1, rfl, hN1, v2, r2, rfl, hN2, rfl⟩ := h4
        simp only [fdeps] at hd
        walk_at "zz"
        refine s_ix_t (SqT.of h3) (v := v1) rfl ?_
        walk_at "zz"
        refine cl_Ldue ⟨n1, hN1, hfa.1, by omega, fun H2 S2 => ?_⟩
        walk_at "zz"
        refine s_ix_t (SqT.of (S2 _ _ h3)) (v := v2) rfl ?_
        walk_at "zz"
        refine cl_Ldue ⟨n2, hN2.mono (TupS.of S2), hfa.2.1, by omega, fun H3 S3 => ?_⟩
        simp only [fixNs] at q
        cases e1 : fixN n1 with
        | none =>
          rw [e1] at q
          walk_at "zz"
          refine s_isN_n ?_
          walk_at "zz"
          exact q H3 (S2.trans S3)
        | some a =>
          rw [e1] at q
          walk_at "zz"
          refine s_isN_i ?_
          walk_at "zz"
          cases e2 : fixN n2 with
          | none =>
            rw [e2] at q
            refine s_isN_n ?_
            walk_at "zz"
            exact q H3 (S2.trans S3)
          | some b =>
            rw [e2] at q
            refine s_isN_i ?_
            walk_at "zz"
            refine cl_Lworked ⟨k, a, b, rfl, rfl, rfl, by omega, by omega, fixN_fig hfa.1 e1, fixN_fig hfa.2.1 e2, fun H4 S4 => ?_⟩
            exact q H4 ((S2.trans S3).trans S4)

theorem rd_law {Z : Adr} (T : Top Z) {a0 : V} {H : Hp} {Q : VK} {E : XK} (h : q_law Z a0 H Q E) : t_law Z (fun cls d _ H => E cls d H) ⟨fun _ H' => Q .non H', Q, fun _ _ => False, fun _ _ => False⟩ [some a0, none, none, none, none, none, none, none] H := by
  unfold t_law
  obtain ⟨a, ns, rfl, hO, hS, hns, q⟩ := h
  walk_at "zz"
  intro p hp
  walk_at "zz"
  refine loop_range (fun i σ' H' => St5 Z.K H' p ∧ ∃ x2 x3 x4 x5 x6 x7, σ' = [some (.ref a), some (.ref p), x2, x3, x4, x5, x6, x7]) ⟨⟨a, ns, 0, 0, 0, 0, hS.same (same_new hp), by omega, by omega, upd_same⟩, none, none, none, none, none, none, rfl⟩ ?_ ?_
  · rintro i σ' H3 hi ⟨S3, x2, x3, x4, x5, x6, x7, rfl⟩
    obtain ⟨sa, ns2, k, l, b, f, hS2, hk, hl, hp3⟩ := S3
    walk_at "zz"
    refine c_setL 3 [.ref sa, .int k, .int l, .int 20, .int f] hp3 rfl rfl fun H4 B4 hp4 => ?_
    have S4 : St5 Z.K H4 p := ⟨sa, ns2, k, l, 20, f, hS2.but B4, hk, hl, hp4⟩
    walk_at "zz"
    refine cl_Ltake ⟨p, 2, rfl, rfl, by omega, by omega, S4, fun v H5 v0 v1 S5 B5 => ?_⟩
    obtain ⟨sa, ns2, k, l, b, f, hS2, hk, hl, hp5⟩ := S5
    walk_at "zz"
    refine c_setL 4 [.ref sa, .int k, .int l, .int b, .int v] hp5 rfl rfl fun H6 B6 hp6 => ?_
    have S6 : St5 Z.K H6 p := ⟨sa, ns2, k, l, b, v, hS2.but B6, hk, hl, hp6⟩
    walk_at "zz"
    refine cl_Lnode ⟨p, 1, rfl, rfl, by omega, by omega, by omega, S6, fun nd vn H7 hN7 fn dn S7 B7 => ?_⟩
    walk_at "zz"
    refine cl_Ldue ⟨nd, hN7, fn, by omega, fun H8 SS8 => ?_⟩
    have S8 := S7.same SS8
    have hN8 := hN7.mono (TupS.of SS8)
    walk_at "zz"
    refine loop_range (fun i σ' H' => St5 Z.K H' p ∧ NodeAt H' nd vn ∧ ∃ x2 x5 x6 x7, σ' = [some (.ref a), some (.ref p), x2, some vn, some (optV (fixN nd)), x5, x6, x7]) ⟨S8, hN8, _, _, _, _, rfl⟩ ?_ ?_
    · rintro i σ' H9 hi ⟨S9, hN9, x2, x5, x6, x7, rfl⟩
      walk_at "zz"
      refine cl_fixed ⟨nd, hN9, fn, by omega, fun H10 SS10 => ?_⟩
      walk_at "zz"
      refine s_ne_v (by cases fixN nd <;> rfl) ?_
      walk_at "zz"
      rw [decide_eq_true rfl]
      walk_at "zz"
      refine s_isi (uu := .type "bool") (ty := .type (match fixN nd with | none => "NoneType" | some _ => "int")) (bb := false) (.ty "bool") ?_ ?_ ?_
      · cases fixN nd with
        | none => exact .base .non
        | some x => exact .base (.int x)
      · cases fixN nd with
        | none => exact kit_ty (a := "NoneType") (by decide +kernel)
        | some x => exact kit_ty (a := "int") (by decide +kernel)
      · walk_at "zz"
        exact ⟨S9.same SS10, hN9.mono (TupS.of SS10), _, _, _, _, rfl⟩
    · rintro σ' H9 ⟨S9, hN9, x2, x5, x6, x7, rfl⟩
      walk_at "zz"
      refine cl_Lother ⟨p, rfl, S9, fun k pl ns ps v H10 hN10 h0 h8 S10 B10 => ?_⟩
      walk_at "zz"
      have fo : Nd.fit (.mk k pl ns ps) := ⟨fun z => absurd z h0, fun z => by omega⟩
      have eo : fixN (.mk k pl ns ps) = none := by unfold fixN; rw [if_neg h0, if_pos h8]
      have dO : (Nd.mk k pl ns ps).fdep = 1 := by unfold Nd.fdep; rw [if_neg (by omega)]
      refine cl_fixed ⟨_, hN10, fo, by omega, fun H11 S11 => ?_⟩
      rw [eo]
      walk_at "zz"
      refine s_notN_n ?_
      walk_at "zz"
      intro tn htn
      walk_at "zz"
      refine cl_Lleaf ⟨p, rfl, (S10.same S11).new htn, fun pl2 x v2 H12 hN12 fx S12 B12 => ?_⟩
      have T12 := ((S10.same S11).new (o := .tup []) htn).tups B12
      walk_at "zz"
      intro tp htp
      walk_at "zz"
      intro t ht
      walk_at "zz"
      refine cl_fixed ⟨.mk 8 1 [] [.mk 0 pl2 [x] [], .mk k pl ns ps], ⟨t, tn, tp, _, rfl, upd_same, up_new ht (up_new htp (T12 _ _ upd_same)), up_new ht upd_same, ⟨_, _, rfl, (hN12.mono (TupS.new htp)).mono (TupS.new ht), _, _, rfl, (((hN10.mono (TupS.of S11)).mono (TupS.new htn)).mono T12).mono (TupS.new htp) |>.mono (TupS.new ht), rfl⟩⟩, ⟨fun z => by omega, fun _ => ⟨rfl, ⟨fun _ => ⟨x, [], rfl, fx⟩, fun z => by omega⟩, fo, trivial⟩⟩, ?_, fun H13 S13 => ?_⟩
      · unfold Nd.fdep
        simp only [fdeps]
        rw [if_pos (by omega), dO]
        unfold Nd.fdep
        split <;> omega
      · rw [show fixN (.mk 8 1 [] [.mk 0 pl2 [x] [], .mk k pl ns ps]) = none by
          unfold fixN
          rw [if_neg (by omega), if_neg (by omega)]
          simp only [fixNs, eo]
          cases fixN (.mk 0 pl2 [x] []) <;> rfl]
        walk_at "zz"
        refine s_notN_n ?_
        walk_at "zz"
        exact ⟨((S12.new htp).new ht).same S13, _, _, _, _, _, _, rfl⟩
  · rintro σ' H3 ⟨S3, x2, x3, x4, x5, x6, x7, rfl⟩
    walk_at "zz"
    exact q _

theorem sc_summed : FnScope nm_summed ["kind", "one", "other"] (defScope st_summed) := ⟨rfl, rfl, rfl, by decide +kernel, rfl, by decide +kernel, by decide +kernel⟩
theorem ok_summed {P : Program} {w : World} {base : Heap} {Z : Adr} (T : Top Z)  : FnOk P w Z.K Z.mg base (L2.CX P w) 1 Z.f_summed Z.d_summed ["kind", "one", "other"] (sp_summed Z) := by
  refine FnOk.mono (T.F_summed.okX (k := 0) sc_summed (fun vs H Q E h => ?_) (fun cdv A outer s H vs Q E hr h => ?_)) (by decide)
  · obtain ⟨a0, a1, a2, rfl, _⟩ := h; rfl
  · obtain ⟨a0, a1, a2, rfl, h⟩ := h
    have tk : Takes (cxOf (L2.CX P w) P w Z.K Z.mg base nm_summed "summed" (defScope st_summed) Z.f_summed cdv A outer s H E) (fun cls d _ H => E cls d H) := takes_of rfl rfl rfl rfl
    have po : PassesOwn (model P w) (cxOf (L2.CX P w) P w Z.K Z.mg base nm_summed "summed" (defScope st_summed) Z.f_summed cdv A outer s H E).A (cxOf (L2.CX P w) P w Z.K Z.mg base nm_summed "summed" (defScope st_summed) Z.f_summed cdv A outer s H E).env (cxOf (L2.CX P w) P w Z.K Z.mg base nm_summed "summed" (defScope st_summed) Z.f_summed cdv A outer s H E).xe := passes_of rfl
    refine ⟨t_summed Z (fun cls d _ H => E cls d H), ?_, rd_summed T h⟩
    exact (C8.pss_cut (ps_if (pt_cmpR (op_eqU (hr.units)) (pv 0) (pe_glob rfl T.g_ADD_deeds ⟨_, rfl⟩) (nomark _)) (pss_one (ps_set (i := 3) sc_summed.nd rfl (Or.inl rfl) (pe_op op_addU (pv 1) (pv 2)))) (pss_one (ps_if (pt_cmpR (op_eqU (hr.units)) (pv 0) (pe_glob rfl T.g_SUB ⟨_, rfl⟩) (nomark _)) (pss_one (ps_set (i := 3) sc_summed.nd rfl (Or.inl rfl) (pe_op op_sub (pv 1) (pv 2)))) (pss_one (ps_set (i := 3) sc_summed.nd rfl (Or.inl rfl) (pe_op op_ml (pv 1) (pv 2)))))))
      (pss_cons (ps_if (pt_cmpR op_gt (pe_callB call_len' (by rfl) T.n_len (by decide +kernel) (pa_cons (pe_callTy call_str' (by rfl) T.n_str (by decide +kernel) (pa_cons (pe_callB call_abs' (by rfl) T.n_abs (by decide +kernel) (pa_cons (pv 3) pa_nil)) pa_nil)) pa_nil)) (pe_glob rfl T.g_MOST_FIGURES ⟨_, rfl⟩) (nomark _)) (pss_one (ps_ret (pe_tup (pa_cons pe_str (pa_cons pe_int pa_nil))))) pss_nil)
      (pss_one (ps_ret (pe_tup (pa_cons pe_non (pa_cons (pv 3) pa_nil)))))))

theorem sc_parted_by : FnScope nm_parted_by ["kind", "one", "other"] (defScope st_parted_by) := ⟨rfl, rfl, rfl, by decide +kernel, rfl, by decide +kernel, by decide +kernel⟩
theorem ok_parted_by {P : Program} {w : World} {base : Heap} {Z : Adr} (T : Top Z)  : FnOk P w Z.K Z.mg base (L2.CX P w) 1 Z.f_parted_by Z.d_parted_by ["kind", "one", "other"] (sp_parted_by Z) := by
  refine FnOk.mono (T.F_parted_by.okX (k := 0) sc_parted_by (fun vs H Q E h => ?_) (fun cdv A outer s H vs Q E hr h => ?_)) (by decide)
  · obtain ⟨a0, a1, a2, rfl, _⟩ := h; rfl
  · obtain ⟨a0, a1, a2, rfl, h⟩ := h
    have tk : Takes (cxOf (L2.CX P w) P w Z.K Z.mg base nm_parted_by "parted_by" (defScope st_parted_by) Z.f_parted_by cdv A outer s H E) (fun cls d _ H => E cls d H) := takes_of rfl rfl rfl rfl
    have po : PassesOwn (model P w) (cxOf (L2.CX P w) P w Z.K Z.mg base nm_parted_by "parted_by" (defScope st_parted_by) Z.f_parted_by cdv A outer s H E).A (cxOf (L2.CX P w) P w Z.K Z.mg base nm_parted_by "parted_by" (defScope st_parted_by) Z.f_parted_by cdv A outer s H E).env (cxOf (L2.CX P w) P w Z.K Z.mg base nm_parted_by "parted_by" (defScope st_parted_by) Z.f_parted_by cdv A outer s H E).xe := passes_of rfl
    refine ⟨t_parted_by Z (fun cls d _ H => E cls d H), ?_, rd_parted_by T h⟩
    exact (pss_cons (ps_if (pt_cmpR (op_eqU (hr.units)) (pv 2) pe_int (nomark _)) (pss_one (ps_ret (pe_tup (pa_cons pe_str (pa_cons pe_int pa_nil))))) pss_nil)
      (pss_cons (ps_if (pt_cmpR (op_eqU (hr.units)) (pv 0) (pe_glob rfl T.g_QUO ⟨_, rfl⟩) (nomark _)) (pss_one (ps_ret (pe_tup (pa_cons pe_non (pa_cons (pe_op op_fdv (pv 1) (pv 2)) pa_nil))))) pss_nil)
      (pss_one (ps_ret (pe_tup (pa_cons pe_non (pa_cons (pe_op op_md (pv 1) (pv 2)) pa_nil)))))))

theorem sc_of_numbers : FnScope nm_of_numbers ["kind", "values"] (defScope st_of_numbers) := ⟨rfl, rfl, rfl, by decide +kernel, rfl, by decide +kernel, by decide +kernel⟩
theorem ok_of_numbers {P : Program} {w : World} {base : Heap} {Z : Adr} (T : Top Z) (G_summed : FnOk P w Z.K Z.mg base (L2.CX P w) 1 Z.f_summed Z.d_summed ["kind", "one", "other"] (sp_summed Z)) (G_parted_by : FnOk P w Z.K Z.mg base (L2.CX P w) 1 Z.f_parted_by Z.d_parted_by ["kind", "one", "other"] (sp_parted_by Z)) : FnOk P w Z.K Z.mg base (L2.CX P w) 2 Z.f_of_numbers Z.d_of_numbers ["kind", "values"] (sp_of_numbers Z) := by
  refine FnOk.mono (T.F_of_numbers.okX (k := 1) sc_of_numbers (fun vs H Q E h => ?_) (fun cdv A outer s H vs Q E hr h => ?_)) (by decide)
  · obtain ⟨a0, a1, rfl, _⟩ := h; rfl
  · obtain ⟨a0, a1, rfl, h⟩ := h
    have tk : Takes (cxOf (L2.CX P w) P w Z.K Z.mg base nm_of_numbers "of_numbers" (defScope st_of_numbers) Z.f_of_numbers cdv A outer s H E) (fun cls d _ H => E cls d H) := takes_of rfl rfl rfl rfl
    have po : PassesOwn (model P w) (cxOf (L2.CX P w) P w Z.K Z.mg base nm_of_numbers "of_numbers" (defScope st_of_numbers) Z.f_of_numbers cdv A outer s H E).A (cxOf (L2.CX P w) P w Z.K Z.mg base nm_of_numbers "of_numbers" (defScope st_of_numbers) Z.f_of_numbers cdv A outer s H E).env (cxOf (L2.CX P w) P w Z.K Z.mg base nm_of_numbers "of_numbers" (defScope st_of_numbers) Z.f_of_numbers cdv A outer s H E).xe := passes_of rfl
    refine ⟨t_of_numbers Z (fun cls d _ H => E cls d H), ?_, rd_of_numbers T h⟩
    exact (pss_cons (ps_asg (pv 1) (pg_un rfl (pgs_cons (pg_name (i := 2) sc_of_numbers.nd rfl (Or.inl rfl)) (pgs_cons (pg_name (i := 3) sc_of_numbers.nd rfl (Or.inl rfl)) pgs_nil))))
      (pss_cons (ps_if (pt_cmpR op_in_seq (pv 0) (pe_tup (pa_cons (pe_glob rfl T.g_ADD_deeds ⟨_, rfl⟩) (pa_cons (pe_glob rfl T.g_SUB ⟨_, rfl⟩) (pa_cons (pe_glob rfl T.g_MUL ⟨_, rfl⟩) pa_nil)))) (by rfl)) (pss_one (ps_ret (pe_callS G_summed (hr.mono (by decide)) rfl T.m_summed T.k_summed T.b_summed (fun σ => passAt tk σ) (pa_cons (pv 0) (pa_cons (pv 2) (pa_cons (pv 3) pa_nil)))))) pss_nil)
      (pss_cons (ps_if (pt_cmpR op_in_seq (pv 0) (pe_tup (pa_cons (pe_glob rfl T.g_QUO ⟨_, rfl⟩) (pa_cons (pe_glob rfl T.g_REST ⟨_, rfl⟩) pa_nil))) (by rfl)) (pss_one (ps_ret (pe_callS G_parted_by (hr.mono (by decide)) rfl T.m_parted_by T.k_parted_by T.b_parted_by (fun σ => passAt tk σ) (pa_cons (pv 0) (pa_cons (pv 2) (pa_cons (pv 3) pa_nil)))))) pss_nil)
      (pss_cons (ps_if (pt_cmpR (op_eqU (hr.units)) (pv 0) (pe_glob rfl T.g_LESS ⟨_, rfl⟩) (nomark _)) (pss_one (ps_ret (pe_tup (pa_cons pe_non (pa_cons (pe_callTy call_int' (by rfl) T.n_int (by decide +kernel) (pa_cons (pe_cmpR op_lt (pv 2) (pv 3) (nomark _)) pa_nil)) pa_nil))))) pss_nil)
      (pss_one (ps_ret (pe_tup (pa_cons pe_non (pa_cons (pe_callTy call_int' (by rfl) T.n_int (by decide +kernel) (pa_cons (pe_cmpR (op_eqU (hr.units)) (pv 2) (pv 3) (nomark _)) pa_nil)) pa_nil)))))))))

theorem sc_of_row : FnScope nm_of_row ["kind", "values", "row"] (defScope st_of_row) := ⟨rfl, rfl, rfl, by decide +kernel, rfl, by decide +kernel, by decide +kernel⟩
theorem ok_of_row {P : Program} {w : World} {base : Heap} {Z : Adr} (T : Top Z)  : FnOk P w Z.K Z.mg base (L2.CX P w) 1 Z.f_of_row Z.d_of_row ["kind", "values", "row"] (sp_of_row Z) := by
  refine FnOk.mono (T.F_of_row.okX (k := 0) sc_of_row (fun vs H Q E h => ?_) (fun cdv A outer s H vs Q E hr h => ?_)) (by decide)
  · obtain ⟨a0, a1, a2, rfl, _⟩ := h; rfl
  · obtain ⟨a0, a1, a2, rfl, h⟩ := h
    have tk : Takes (cxOf (L2.CX P w) P w Z.K Z.mg base nm_of_row "of_row" (defScope st_of_row) Z.f_of_row cdv A outer s H E) (fun cls d _ H => E cls d H) := takes_of rfl rfl rfl rfl
    have po : PassesOwn (model P w) (cxOf (L2.CX P w) P w Z.K Z.mg base nm_of_row "of_row" (defScope st_of_row) Z.f_of_row cdv A outer s H E).A (cxOf (L2.CX P w) P w Z.K Z.mg base nm_of_row "of_row" (defScope st_of_row) Z.f_of_row cdv A outer s H E).env (cxOf (L2.CX P w) P w Z.K Z.mg base nm_of_row "of_row" (defScope st_of_row) Z.f_of_row cdv A outer s H E).xe := passes_of rfl
    refine ⟨t_of_row Z (fun cls d _ H => E cls d H), ?_, rd_of_row T h⟩
    exact (pss_cons (ps_if (pt_cmpR (op_eqU (hr.units)) (pv 0) (pe_glob rfl T.g_SIZE ⟨_, rfl⟩) (nomark _)) (pss_one (ps_ret (pe_tup (pa_cons pe_non (pa_cons (pe_callB call_len' (by rfl) T.n_len (by decide +kernel) (pa_cons (pv 2) pa_nil)) pa_nil))))) pss_nil)
      (pss_cons (ps_if (pt_cmpR (op_eqU (hr.units)) (pv 0) (pe_glob rfl T.g_PUSH ⟨_, rfl⟩) (nomark _)) (pss_cons (ps_expr (pe_bm PySem.F.plainAttrs_list PySem.F.slot_list_append PySem.F.type_list_append mt_append (pv 2) (pa_cons (pe_ix ix_seq (pv 1) pe_int (fun _ _ => rfl)) pa_nil)))
      (pss_one (ps_ret (pe_tup (pa_cons pe_non (pa_cons (pe_ix ix_seq (pv 1) pe_int (fun _ _ => rfl)) pa_nil)))))) pss_nil)
      (pss_cons (ps_if (pt_not (pt_chain op_le op_lt pe_int (pe_ix ix_seq (pv 1) pe_int (fun _ _ => rfl)) (pe_callB call_len' (by rfl) T.n_len (by decide +kernel) (pa_cons (pv 2) pa_nil)))) (pss_one (ps_ret (pe_tup (pa_cons pe_str (pa_cons pe_int pa_nil))))) pss_nil)
      (pss_cons (ps_if (pt_cmpR (op_eqU (hr.units)) (pv 0) (pe_glob rfl T.g_AT ⟨_, rfl⟩) (nomark _)) (pss_one (ps_ret (pe_tup (pa_cons pe_non (pa_cons (pe_ix ix_seq (pv 2) (pe_ix ix_seq (pv 1) pe_int (fun _ _ => rfl)) (fun _ _ => rfl)) pa_nil))))) pss_nil)
      (pss_cons (ps_asg (pe_ix ix_seq (pv 1) pe_int (fun _ _ => rfl)) (pg_sub (pv 2) (pe_ix ix_seq (pv 1) pe_int (fun _ _ => rfl)) set_list))
      (pss_one (ps_ret (pe_tup (pa_cons pe_non (pa_cons (pe_ix ix_seq (pv 1) pe_int (fun _ _ => rfl)) pa_nil))))))))))

theorem sc_worth : FnScope nm_worth ["kind", "values", "rows"] (defScope st_worth) := ⟨rfl, rfl, rfl, by decide +kernel, rfl, by decide +kernel, by decide +kernel⟩
theorem ok_worth {P : Program} {w : World} {base : Heap} {Z : Adr} (T : Top Z) (G_of_numbers : FnOk P w Z.K Z.mg base (L2.CX P w) 2 Z.f_of_numbers Z.d_of_numbers ["kind", "values"] (sp_of_numbers Z)) (G_of_row : FnOk P w Z.K Z.mg base (L2.CX P w) 1 Z.f_of_row Z.d_of_row ["kind", "values", "row"] (sp_of_row Z)) : FnOk P w Z.K Z.mg base (L2.CX P w) 3 Z.f_worth Z.d_worth ["kind", "values", "rows"] (sp_worth Z) := by
  refine FnOk.mono (T.F_worth.okX (k := 2) sc_worth (fun vs H Q E h => ?_) (fun cdv A outer s H vs Q E hr h => ?_)) (by decide)
  · obtain ⟨a0, a1, a2, rfl, _⟩ := h; rfl
  · obtain ⟨a0, a1, a2, rfl, h⟩ := h
    have tk : Takes (cxOf (L2.CX P w) P w Z.K Z.mg base nm_worth "worth" (defScope st_worth) Z.f_worth cdv A outer s H E) (fun cls d _ H => E cls d H) := takes_of rfl rfl rfl rfl
    have po : PassesOwn (model P w) (cxOf (L2.CX P w) P w Z.K Z.mg base nm_worth "worth" (defScope st_worth) Z.f_worth cdv A outer s H E).A (cxOf (L2.CX P w) P w Z.K Z.mg base nm_worth "worth" (defScope st_worth) Z.f_worth cdv A outer s H E).env (cxOf (L2.CX P w) P w Z.K Z.mg base nm_worth "worth" (defScope st_worth) Z.f_worth cdv A outer s H E).xe := passes_of rfl
    refine ⟨t_worth Z (fun cls d _ H => E cls d H), ?_, rd_worth T h⟩
    exact (pss_cons (ps_if (pt_cmpR op_le (pv 0) (pe_glob rfl T.g_SAME_deeds ⟨_, rfl⟩) (nomark _)) (pss_one (ps_ret (pe_callS G_of_numbers (hr.mono (by decide)) rfl T.m_of_numbers T.k_of_numbers T.b_of_numbers (fun σ => passAt tk σ) (pa_cons (pv 0) (pa_cons (pv 1) pa_nil))))) pss_nil)
      (pss_cons (ps_if (pt_cmpR op_gt (pv 0) (pe_glob rfl T.g_SIZE ⟨_, rfl⟩) (nomark _)) (pss_cons (ps_expr (pe_bm PySem.F.plainAttrs_list PySem.F.slot_list_append PySem.F.type_list_append mt_append (pv 2) (pa_cons (pe_lst pa_nil) pa_nil)))
      (pss_one (ps_ret (pe_tup (pa_cons pe_non (pa_cons (pe_op op_sub (pe_callB call_len' (by rfl) T.n_len (by decide +kernel) (pa_cons (pv 2) pa_nil)) pe_int) pa_nil)))))) pss_nil)
      (pss_cons (ps_if (pt_not (pt_chain op_le op_lt pe_int (pe_ix ix_seq (pv 1) pe_int (fun _ _ => rfl)) (pe_callB call_len' (by rfl) T.n_len (by decide +kernel) (pa_cons (pv 2) pa_nil)))) (pss_one (ps_ret (pe_tup (pa_cons pe_str (pa_cons pe_int pa_nil))))) pss_nil)
      (pss_one (ps_ret (pe_callS G_of_row (hr.mono (by decide)) rfl T.m_of_row T.k_of_row T.b_of_row (fun σ => passAt tk σ) (pa_cons (pv 0) (pa_cons (pv 1) (pa_cons (pe_ix ix_seq (pv 2) (pe_ix ix_seq (pv 1) pe_int (fun _ _ => rfl)) (fun _ _ => rfl)) pa_nil)))))))))

theorem sc_fixed : FnScope nm_fixed ["node"] (defScope st_fixed) := ⟨rfl, rfl, rfl, by decide +kernel, rfl, by decide +kernel, by decide +kernel⟩
theorem ok_fixed {P : Program} {w : World} {base : Heap} {Z : Adr} (T : Top Z) (n : Nat) (G_fixed : FnOk P w Z.K Z.mg base (L2.CX P w) (3 + n) Z.f_fixed Z.d_fixed ["node"] (sp_fixed Z n)) (G_worth : FnOk P w Z.K Z.mg base (L2.CX P w) 3 Z.f_worth Z.d_worth ["kind", "values", "rows"] (sp_worth Z)) : FnOk P w Z.K Z.mg base (L2.CX P w) (3 + n + 1) Z.f_fixed Z.d_fixed ["node"] (sp_fixed Z (n + 1)) := by
  refine T.F_fixed.okX (k := 3 + n) sc_fixed (fun vs H Q E h => ?_) (fun cdv A outer s H vs Q E hr h => ?_)
  · obtain ⟨a0, rfl, _⟩ := h; rfl
  · obtain ⟨a0, rfl, h⟩ := h
    have tk : Takes (cxOf (L2.CX P w) P w Z.K Z.mg base nm_fixed "fixed" (defScope st_fixed) Z.f_fixed cdv A outer s H E) (fun cls d _ H => E cls d H) := takes_of rfl rfl rfl rfl
    have po : PassesOwn (model P w) (cxOf (L2.CX P w) P w Z.K Z.mg base nm_fixed "fixed" (defScope st_fixed) Z.f_fixed cdv A outer s H E).A (cxOf (L2.CX P w) P w Z.K Z.mg base nm_fixed "fixed" (defScope st_fixed) Z.f_fixed cdv A outer s H E).env (cxOf (L2.CX P w) P w Z.K Z.mg base nm_fixed "fixed" (defScope st_fixed) Z.f_fixed cdv A outer s H E).xe := passes_of rfl
    refine ⟨t_fixed Z n (fun cls d _ H => E cls d H), ?_, rd_fixed T h⟩
    exact (pss_cons (ps_asg (pv 0) (pg_un rfl (pgs_cons (pg_name (i := 1) sc_fixed.nd rfl (Or.inl rfl)) (pgs_cons (pg_name (i := 2) sc_fixed.nd rfl (Or.inl rfl)) (pgs_cons (pg_name (i := 3) sc_fixed.nd rfl (Or.inl rfl)) (pgs_cons (pg_name (i := 4) sc_fixed.nd rfl (Or.inl rfl)) pgs_nil))))))
      (pss_cons (ps_if (pt_cmpR (op_eqU (hr.units)) (pv 1) (pe_glob rfl T.g_NUMBER ⟨_, rfl⟩) (nomark _)) (pss_one (ps_ret (pe_ix ix_seq (pv 3) pe_int (fun _ _ => rfl)))) pss_nil)
      (pss_cons (ps_if (PW.pt (pw_or (pt_cmpR op_lt (pv 1) (pe_glob rfl T.g_ADD_kinds ⟨_, rfl⟩) (nomark _)) (pw_or1 (pt_cmpR op_gt (pv 1) (pe_glob rfl T.g_SAME_kinds ⟨_, rfl⟩) (nomark _))))) (pss_one (ps_ret pe_non)) pss_nil)
      (pss_cons (ps_set (i := 5) sc_fixed.nd rfl (Or.inl rfl) (pe_lst pa_nil))
      (pss_cons (ps_for po rfl (pi_tup (pv 4)) (pg_name (i := 6) sc_fixed.nd rfl (Or.inl rfl)) (pss_cons (ps_expr (pe_bm PySem.F.plainAttrs_list PySem.F.slot_list_append PySem.F.type_list_append mt_append (pv 5) (pa_cons (pe_callS G_fixed (hr.mono (by omega)) rfl T.m_fixed T.k_fixed T.b_fixed (fun σ => passAt tk σ) (pa_cons (pv 6) pa_nil)) pa_nil)))
      (pss_one (ps_if (pt_cmpR op_isNz (pe_ix ix_seq (pv 5) (pe_un un_neg pe_int) (fun _ _ => rfl)) pe_non (nomark _)) (pss_one (ps_ret pe_non)) pss_nil))))
      (pss_cons (ps_asg (pe_callS G_worth (hr.mono (by omega)) rfl T.m_worth T.k_worth T.b_worth (fun σ => passAt tk σ) (pa_cons (pv 1) (pa_cons (pv 5) (pa_cons (pe_lst pa_nil) pa_nil)))) (pg_un rfl (pgs_cons (pg_name (i := 7) sc_fixed.nd rfl (Or.inl rfl)) (pgs_cons (pg_name (i := 8) sc_fixed.nd rfl (Or.inl rfl)) pgs_nil))))
      (pss_cons (ps_if (pt_cmpR op_notNz (pv 7) pe_non (nomark _)) (pss_one (ps_ret pe_non)) pss_nil)
      (pss_one (ps_ret (pv 8))))))))))

theorem sc_Lcell : FnScope nm_Lcell ["_law_script", "_law_k"] (defScope st_Lcell) := ⟨rfl, rfl, rfl, by decide +kernel, rfl, by decide +kernel, by decide +kernel⟩
theorem ok_Lcell {P : Program} {w : World} {base : Heap} {Z : Adr} (T : Top Z)  : FnOk P w Z.K Z.mg base (L2.CX P w) 1 Z.f_Lcell Z.d_Lcell ["_law_script", "_law_k"] (sp_Lcell Z) := by
  refine FnOk.mono (T.F_Lcell.okX (k := 0) sc_Lcell (fun vs H Q E h => ?_) (fun cdv A outer s H vs Q E hr h => ?_)) (by decide)
  · obtain ⟨a0, a1, rfl, _⟩ := h; rfl
  · obtain ⟨a0, a1, rfl, h⟩ := h
    have tk : Takes (cxOf (L2.CX P w) P w Z.K Z.mg base nm_Lcell "_law_cell" (defScope st_Lcell) Z.f_Lcell cdv A outer s H E) (fun cls d _ H => E cls d H) := takes_of rfl rfl rfl rfl
    have po : PassesOwn (model P w) (cxOf (L2.CX P w) P w Z.K Z.mg base nm_Lcell "_law_cell" (defScope st_Lcell) Z.f_Lcell cdv A outer s H E).A (cxOf (L2.CX P w) P w Z.K Z.mg base nm_Lcell "_law_cell" (defScope st_Lcell) Z.f_Lcell cdv A outer s H E).env (cxOf (L2.CX P w) P w Z.K Z.mg base nm_Lcell "_law_cell" (defScope st_Lcell) Z.f_Lcell cdv A outer s H E).xe := passes_of rfl
    refine ⟨t_Lcell Z (fun cls d _ H => E cls d H), ?_, rd_Lcell T h⟩
    exact (pss_cons (ps_if (pt_cmpR op_lt (pv 1) (pe_callB call_len' (by rfl) T.n_len (by decide +kernel) (pa_cons (pv 0) pa_nil)) (nomark _)) (pss_one (ps_ret (pe_ix ix_seq (pv 0) (pv 1) (fun _ _ => rfl)))) pss_nil)
      (pss_one (ps_ret pe_int)))

theorem sc_Ltake : FnScope nm_Ltake ["_law_state", "_law_most"] (defScope st_Ltake) := ⟨rfl, rfl, rfl, by decide +kernel, rfl, by decide +kernel, by decide +kernel⟩
theorem ok_Ltake {P : Program} {w : World} {base : Heap} {Z : Adr} (T : Top Z) (G_Lcell : FnOk P w Z.K Z.mg base (L2.CX P w) 1 Z.f_Lcell Z.d_Lcell ["_law_script", "_law_k"] (sp_Lcell Z)) : FnOk P w Z.K Z.mg base (L2.CX P w) 2 Z.f_Ltake Z.d_Ltake ["_law_state", "_law_most"] (sp_Ltake Z) := by
  refine FnOk.mono (T.F_Ltake.okX (k := 1) sc_Ltake (fun vs H Q E h => ?_) (fun cdv A outer s H vs Q E hr h => ?_)) (by decide)
  · obtain ⟨a0, a1, rfl, _⟩ := h; rfl
  · obtain ⟨a0, a1, rfl, h⟩ := h
    have tk : Takes (cxOf (L2.CX P w) P w Z.K Z.mg base nm_Ltake "_law_take" (defScope st_Ltake) Z.f_Ltake cdv A outer s H E) (fun cls d _ H => E cls d H) := takes_of rfl rfl rfl rfl
    have po : PassesOwn (model P w) (cxOf (L2.CX P w) P w Z.K Z.mg base nm_Ltake "_law_take" (defScope st_Ltake) Z.f_Ltake cdv A outer s H E).A (cxOf (L2.CX P w) P w Z.K Z.mg base nm_Ltake "_law_take" (defScope st_Ltake) Z.f_Ltake cdv A outer s H E).env (cxOf (L2.CX P w) P w Z.K Z.mg base nm_Ltake "_law_take" (defScope st_Ltake) Z.f_Ltake cdv A outer s H E).xe := passes_of rfl
    refine ⟨t_Ltake Z (fun cls d _ H => E cls d H), ?_, rd_Ltake T h⟩
    exact (pss_cons (ps_asg (pe_slice sl_list (pv 0) po_none (po_some pe_int)) (pg_un rfl (pgs_cons (pg_name (i := 2) sc_Ltake.nd rfl (Or.inl rfl)) (pgs_cons (pg_name (i := 3) sc_Ltake.nd rfl (Or.inl rfl)) (pgs_cons (pg_name (i := 4) sc_Ltake.nd rfl (Or.inl rfl)) pgs_nil)))))
      (C8.pss_cut (ps_if (pt_cmpR (op_eqU (hr.units)) (pv 4) pe_int (nomark _)) (pss_cons (ps_set (i := 5) sc_Ltake.nd rfl (Or.inl rfl) (pe_callS G_Lcell (hr.mono (by decide)) rfl T.m_Lcell T.k_Lcell T.b_Lcell (fun σ => passAt tk σ) (pa_cons (pv 2) (pa_cons (pe_op op_md (pv 3) pe_int) pa_nil))))
      (pss_cons (ps_asg (pe_op op_addU (pv 3) pe_int) (pg_sub (pv 0) pe_int set_list))
      (pss_one (ps_if (PW.pt (pw_and (pt_cmpR op_lt (pv 3) (pe_callB call_len' (by rfl) T.n_len (by decide +kernel) (pa_cons (pv 2) pa_nil)) (nomark _)) (pw_and1 (pt_cmpR op_ge (pv 5) (pe_powc (by unfold CPow; decide) (by decide +kernel)) (nomark _))))) (pss_one (ps_set (i := 4) sc_Ltake.nd rfl (Or.inl rfl) (pv 5))) (pss_cons (ps_set (i := 6) sc_Ltake.nd rfl (Or.inl rfl) (pe_op op_md (pe_op op_ml (pe_op op_addU (pe_op op_addU (pe_op op_md (pv 5) pe_int) (pe_op op_ml pe_int (pv 3))) pe_int) pe_int) pe_int))
      (pss_cons (ps_set (i := 6) sc_Ltake.nd rfl (Or.inl rfl) (pe_op op_md (pe_op op_addU (pe_op op_addU (pe_op op_ml (pv 6) (pv 6)) (pe_op op_ml pe_int (pv 6))) (pv 3)) pe_int))
      (pss_one (ps_ret (pe_op op_md (pe_op op_fdv (pv 6) pe_int) (pv 1)))))))))) pss_nil)
      (pss_cons (ps_asg (pe_op op_fdv (pv 4) (pv 1)) (pg_sub (pv 0) pe_int set_list))
      (pss_one (ps_ret (pe_op op_md (pv 4) (pv 1)))))))

theorem sc_Lnumber : FnScope nm_Lnumber ["_law_state"] (defScope st_Lnumber) := ⟨rfl, rfl, rfl, by decide +kernel, rfl, by decide +kernel, by decide +kernel⟩
theorem ok_Lnumber {P : Program} {w : World} {base : Heap} {Z : Adr} (T : Top Z) (G_Ltake : FnOk P w Z.K Z.mg base (L2.CX P w) 2 Z.f_Ltake Z.d_Ltake ["_law_state", "_law_most"] (sp_Ltake Z)) : FnOk P w Z.K Z.mg base (L2.CX P w) 3 Z.f_Lnumber Z.d_Lnumber ["_law_state"] (sp_Lnumber Z) := by
  refine FnOk.mono (T.F_Lnumber.okX (k := 2) sc_Lnumber (fun vs H Q E h => ?_) (fun cdv A outer s H vs Q E hr h => ?_)) (by decide)
  · obtain ⟨a0, rfl, _⟩ := h; rfl
  · obtain ⟨a0, rfl, h⟩ := h
    have tk : Takes (cxOf (L2.CX P w) P w Z.K Z.mg base nm_Lnumber "_law_number" (defScope st_Lnumber) Z.f_Lnumber cdv A outer s H E) (fun cls d _ H => E cls d H) := takes_of rfl rfl rfl rfl
    have po : PassesOwn (model P w) (cxOf (L2.CX P w) P w Z.K Z.mg base nm_Lnumber "_law_number" (defScope st_Lnumber) Z.f_Lnumber cdv A outer s H E).A (cxOf (L2.CX P w) P w Z.K Z.mg base nm_Lnumber "_law_number" (defScope st_Lnumber) Z.f_Lnumber cdv A outer s H E).env (cxOf (L2.CX P w) P w Z.K Z.mg base nm_Lnumber "_law_number" (defScope st_Lnumber) Z.f_Lnumber cdv A outer s H E).xe := passes_of rfl
    refine ⟨t_Lnumber Z (fun cls d _ H => E cls d H), ?_, rd_Lnumber T h⟩
    exact (pss_cons (ps_set (i := 1) sc_Lnumber.nd rfl (Or.inl rfl) (pe_callS G_Ltake (hr.mono (by decide)) rfl T.m_Ltake T.k_Ltake T.b_Ltake (fun σ => passAt tk σ) (pa_cons (pv 0) (pa_cons pe_int pa_nil))))
      (pss_cons (ps_if (pt_cmpR op_lt (pv 1) pe_int (nomark _)) (pss_one (ps_ret (pe_op op_sub (pe_callS G_Ltake (hr.mono (by decide)) rfl T.m_Ltake T.k_Ltake T.b_Ltake (fun σ => passAt tk σ) (pa_cons (pv 0) (pa_cons pe_int pa_nil))) pe_int))) pss_nil)
      (pss_cons (ps_set (i := 2) sc_Lnumber.nd rfl (Or.inl rfl) (pe_op op_sub (pe_ix ix_seq (pe_lst (pa_cons (pe_op op_sub (pe_powc (by unfold CPow; decide) (by decide +kernel)) pe_int) (pa_cons (pe_powc (by unfold CPow; decide) (by decide +kernel)) (pa_cons (pe_powc (by unfold CPow; decide) (by decide +kernel)) pa_nil)))) (pe_op op_sub (pv 1) pe_int) (fun _ _ => rfl)) (pe_callS G_Ltake (hr.mono (by decide)) rfl T.m_Ltake T.k_Ltake T.b_Ltake (fun σ => passAt tk σ) (pa_cons (pv 0) (pa_cons pe_int pa_nil)))))
      (pss_one (ps_ret (pe_op op_ml (pv 2) (pe_ix ix_seq (pe_lst (pa_cons pe_int (pa_cons (pe_un un_neg pe_int) pa_nil))) (pe_callS G_Ltake (hr.mono (by decide)) rfl T.m_Ltake T.k_Ltake T.b_Ltake (fun σ => passAt tk σ) (pa_cons (pv 0) (pa_cons pe_int pa_nil))) (fun _ _ => rfl))))))))

theorem sc_Lleaf : FnScope nm_Lleaf ["_law_state"] (defScope st_Lleaf) := ⟨rfl, rfl, rfl, by decide +kernel, rfl, by decide +kernel, by decide +kernel⟩
theorem ok_Lleaf {P : Program} {w : World} {base : Heap} {Z : Adr} (T : Top Z) (G_Ltake : FnOk P w Z.K Z.mg base (L2.CX P w) 2 Z.f_Ltake Z.d_Ltake ["_law_state", "_law_most"] (sp_Ltake Z)) (G_Lnumber : FnOk P w Z.K Z.mg base (L2.CX P w) 3 Z.f_Lnumber Z.d_Lnumber ["_law_state"] (sp_Lnumber Z)) : FnOk P w Z.K Z.mg base (L2.CX P w) 4 Z.f_Lleaf Z.d_Lleaf ["_law_state"] (sp_Lleaf Z) := by
  refine FnOk.mono (T.F_Lleaf.okX (k := 3) sc_Lleaf (fun vs H Q E h => ?_) (fun cdv A outer s H vs Q E hr h => ?_)) (by decide)
  · obtain ⟨a0, rfl, _⟩ := h; rfl
  · obtain ⟨a0, rfl, h⟩ := h
    have tk : Takes (cxOf (L2.CX P w) P w Z.K Z.mg base nm_Lleaf "_law_leaf" (defScope st_Lleaf) Z.f_Lleaf cdv A outer s H E) (fun cls d _ H => E cls d H) := takes_of rfl rfl rfl rfl
    have po : PassesOwn (model P w) (cxOf (L2.CX P w) P w Z.K Z.mg base nm_Lleaf "_law_leaf" (defScope st_Lleaf) Z.f_Lleaf cdv A outer s H E).A (cxOf (L2.CX P w) P w Z.K Z.mg base nm_Lleaf "_law_leaf" (defScope st_Lleaf) Z.f_Lleaf cdv A outer s H E).env (cxOf (L2.CX P w) P w Z.K Z.mg base nm_Lleaf "_law_leaf" (defScope st_Lleaf) Z.f_Lleaf cdv A outer s H E).xe := passes_of rfl
    refine ⟨t_Lleaf Z (fun cls d _ H => E cls d H), ?_, rd_Lleaf T h⟩
    exact (pss_one (ps_ret (pe_tup (pa_cons pe_int (pa_cons (pe_callS G_Ltake (hr.mono (by decide)) rfl T.m_Ltake T.k_Ltake T.b_Ltake (fun σ => passAt tk σ) (pa_cons (pv 0) (pa_cons pe_int pa_nil))) (pa_cons (pe_tup (pa_cons (pe_callS G_Lnumber (hr.mono (by decide)) rfl T.m_Lnumber T.k_Lnumber T.b_Lnumber (fun σ => passAt tk σ) (pa_cons (pv 0) pa_nil)) pa_nil)) (pa_cons (pe_tup pa_nil) pa_nil)))))))

theorem sc_Lother : FnScope nm_Lother ["_law_state"] (defScope st_Lother) := ⟨rfl, rfl, rfl, by decide +kernel, rfl, by decide +kernel, by decide +kernel⟩
theorem ok_Lother {P : Program} {w : World} {base : Heap} {Z : Adr} (T : Top Z) (G_Ltake : FnOk P w Z.K Z.mg base (L2.CX P w) 2 Z.f_Ltake Z.d_Ltake ["_law_state", "_law_most"] (sp_Ltake Z)) (G_Lleaf : FnOk P w Z.K Z.mg base (L2.CX P w) 4 Z.f_Lleaf Z.d_Lleaf ["_law_state"] (sp_Lleaf Z)) : FnOk P w Z.K Z.mg base (L2.CX P w) 5 Z.f_Lother Z.d_Lother ["_law_state"] (sp_Lother Z) := by
  refine FnOk.mono (T.F_Lother.okX (k := 4) sc_Lother (fun vs H Q E h => ?_) (fun cdv A outer s H vs Q E hr h => ?_)) (by decide)
  · obtain ⟨a0, rfl, _⟩ := h; rfl
  · obtain ⟨a0, rfl, h⟩ := h
    have tk : Takes (cxOf (L2.CX P w) P w Z.K Z.mg base nm_Lother "_law_other" (defScope st_Lother) Z.f_Lother cdv A outer s H E) (fun cls d _ H => E cls d H) := takes_of rfl rfl rfl rfl
    have po : PassesOwn (model P w) (cxOf (L2.CX P w) P w Z.K Z.mg base nm_Lother "_law_other" (defScope st_Lother) Z.f_Lother cdv A outer s H E).A (cxOf (L2.CX P w) P w Z.K Z.mg base nm_Lother "_law_other" (defScope st_Lother) Z.f_Lother cdv A outer s H E).env (cxOf (L2.CX P w) P w Z.K Z.mg base nm_Lother "_law_other" (defScope st_Lother) Z.f_Lother cdv A outer s H E).xe := passes_of rfl
    refine ⟨t_Lother Z (fun cls d _ H => E cls d H), ?_, rd_Lother T h⟩
    exact (pss_cons (ps_set (i := 1) sc_Lother.nd rfl (Or.inl rfl) (pe_ix ix_seq (pe_lst (pa_cons pe_int (pa_cons pe_int (pa_cons pe_int (pa_cons pe_int (pa_cons pe_int (pa_cons pe_int (pa_cons pe_int (pa_cons pe_int (pa_cons pe_int (pa_cons pe_int (pa_cons pe_int (pa_cons pe_int pa_nil))))))))))))) (pe_callS G_Ltake (hr.mono (by decide)) rfl T.m_Ltake T.k_Ltake T.b_Ltake (fun σ => passAt tk σ) (pa_cons (pv 0) (pa_cons pe_int pa_nil))) (fun _ _ => rfl)))
      (pss_cons (ps_set (i := 2) sc_Lother.nd rfl (Or.inl rfl) (pe_ix ix_seq (pe_lst (pa_cons pe_int (pa_cons pe_int (pa_cons pe_int (pa_cons pe_int (pa_cons pe_int (pa_cons pe_int (pa_cons pe_int (pa_cons pe_int (pa_cons pe_int (pa_cons pe_int (pa_cons pe_int (pa_cons pe_int (pa_cons pe_int (pa_cons pe_int (pa_cons pe_int (pa_cons pe_int (pa_cons pe_int (pa_cons pe_int (pa_cons pe_int (pa_cons pe_int pa_nil))))))))))))))))))))) (pv 1) (fun _ _ => rfl)))
      (pss_cons (ps_set (i := 3) sc_Lother.nd rfl (Or.inl rfl) (pe_tup pa_nil))
      (C8.pss_cut (ps_if (pt_cmpR op_in_seq (pv 1) (pe_tup (pa_cons pe_int (pa_cons pe_int (pa_cons pe_int (pa_cons pe_int (pa_cons pe_int pa_nil)))))) (by rfl)) (pss_one (ps_set (i := 3) sc_Lother.nd rfl (Or.inl rfl) (pe_tup (pa_cons (pe_ix ix_seq (pe_lst (pa_cons pe_int (pa_cons pe_int (pa_cons pe_int (pa_cons pe_int (pa_cons pe_int (pa_cons pe_int (pa_cons pe_int pa_nil)))))))) (pv 1) (fun _ _ => rfl)) pa_nil)))) pss_nil)
      (pss_one (ps_ret (pe_tup (pa_cons (pv 1) (pa_cons (pe_callS G_Ltake (hr.mono (by decide)) rfl T.m_Ltake T.k_Ltake T.b_Ltake (fun σ => passAt tk σ) (pa_cons (pv 0) (pa_cons pe_int pa_nil))) (pa_cons (pv 3) (pa_cons (pe_callTy call_tuple' (by rfl) T.n_tuple (by decide +kernel) (pa_cons (pe_lc (own := [(".0", 4), ("_law_k", 5)]) (g := (gName 5)) (tt := tYes) rfl sc_Lother.nd (pi_range1 rfl T.n_range (pa_cons (pv 2) pa_nil)) (blkOk_by (own := [(".0", 4), ("_law_k", 5)]) (N := nm_Lother) (sc := defScope st_Lother) (by decide +kernel)) (fun _ _ _ _ _ => (pg_name (i := 5) sc_Lother.nd rfl (Or.inl rfl))) (fun _ _ _ _ _ => pts_nil) (fun _ _ _ _ _ => (pe_callS G_Lleaf (hr.mono (by decide)) rfl T.m_Lleaf T.k_Lleaf T.b_Lleaf passC (pa_cons (pv 0) pa_nil)))) pa_nil)) pa_nil)))))))))))

theorem sc_Lnode : FnScope nm_Lnode ["_law_state", "_law_deep"] (defScope st_Lnode) := ⟨rfl, rfl, rfl, by decide +kernel, rfl, by decide +kernel, by decide +kernel⟩
theorem ok_Lnode {P : Program} {w : World} {base : Heap} {Z : Adr} (T : Top Z) (n : Nat) (G_Ltake : FnOk P w Z.K Z.mg base (L2.CX P w) 2 Z.f_Ltake Z.d_Ltake ["_law_state", "_law_most"] (sp_Ltake Z)) (G_Lother : FnOk P w Z.K Z.mg base (L2.CX P w) 5 Z.f_Lother Z.d_Lother ["_law_state"] (sp_Lother Z)) (G_Lleaf : FnOk P w Z.K Z.mg base (L2.CX P w) 4 Z.f_Lleaf Z.d_Lleaf ["_law_state"] (sp_Lleaf Z)) (G_Lnode : FnOk P w Z.K Z.mg base (L2.CX P w) (5 + n) Z.f_Lnode Z.d_Lnode ["_law_state", "_law_deep"] (sp_Lnode Z n)) : FnOk P w Z.K Z.mg base (L2.CX P w) (5 + n + 1) Z.f_Lnode Z.d_Lnode ["_law_state", "_law_deep"] (sp_Lnode Z (n + 1)) := by
  refine T.F_Lnode.okX (k := 5 + n) sc_Lnode (fun vs H Q E h => ?_) (fun cdv A outer s H vs Q E hr h => ?_)
  · obtain ⟨a0, a1, rfl, _⟩ := h; rfl
  · obtain ⟨a0, a1, rfl, h⟩ := h
    have tk : Takes (cxOf (L2.CX P w) P w Z.K Z.mg base nm_Lnode "_law_node" (defScope st_Lnode) Z.f_Lnode cdv A outer s H E) (fun cls d _ H => E cls d H) := takes_of rfl rfl rfl rfl
    have po : PassesOwn (model P w) (cxOf (L2.CX P w) P w Z.K Z.mg base nm_Lnode "_law_node" (defScope st_Lnode) Z.f_Lnode cdv A outer s H E).A (cxOf (L2.CX P w) P w Z.K Z.mg base nm_Lnode "_law_node" (defScope st_Lnode) Z.f_Lnode cdv A outer s H E).env (cxOf (L2.CX P w) P w Z.K Z.mg base nm_Lnode "_law_node" (defScope st_Lnode) Z.f_Lnode cdv A outer s H E).xe := passes_of rfl
    refine ⟨t_Lnode Z n (fun cls d _ H => E cls d H), ?_, rd_Lnode T h⟩
    exact (pss_cons (ps_asg (pe_op op_sub (pe_ix ix_seq (pv 0) pe_int (fun _ _ => rfl)) pe_int) (pg_sub (pv 0) pe_int set_list))
      (pss_cons (ps_if (PW.pt (pw_or (pt_cmpR (op_eqU (hr.units)) (pv 1) pe_int (nomark _)) (pw_or (pt_cmpR op_lt (pe_ix ix_seq (pv 0) pe_int (fun _ _ => rfl)) pe_int (nomark _)) (pw_or1 (pt_cmpR (op_eqU (hr.units)) (pe_callS G_Ltake (hr.mono (by omega)) rfl T.m_Ltake T.k_Ltake T.b_Ltake (fun σ => passAt tk σ) (pa_cons (pv 0) (pa_cons pe_int pa_nil))) pe_int (nomark _)))))) (pss_cons (ps_if (PW.pt (pw_and (pt_cmpR (op_eqU (hr.units)) (pe_ix ix_seq (pv 0) pe_int (fun _ _ => rfl)) pe_int (nomark _)) (pw_and1 (pt_cmpR (op_eqU (hr.units)) (pe_callS G_Ltake (hr.mono (by omega)) rfl T.m_Ltake T.k_Ltake T.b_Ltake (fun σ => passAt tk σ) (pa_cons (pv 0) (pa_cons pe_int pa_nil))) pe_int (nomark _))))) (pss_one (ps_ret (pe_callS G_Lother (hr.mono (by omega)) rfl T.m_Lother T.k_Lother T.b_Lother (fun σ => passAt tk σ) (pa_cons (pv 0) pa_nil)))) pss_nil)
      (pss_one (ps_ret (pe_callS G_Lleaf (hr.mono (by omega)) rfl T.m_Lleaf T.k_Lleaf T.b_Lleaf (fun σ => passAt tk σ) (pa_cons (pv 0) pa_nil))))) pss_nil)
      (pss_cons (ps_set (i := 2) sc_Lnode.nd rfl (Or.inl rfl) (pe_op op_addU pe_int (pe_callS G_Ltake (hr.mono (by omega)) rfl T.m_Ltake T.k_Ltake T.b_Ltake (fun σ => passAt tk σ) (pa_cons (pv 0) (pa_cons pe_int pa_nil)))))
      (pss_one (ps_ret (pe_tup (pa_cons (pv 2) (pa_cons (pe_callS G_Ltake (hr.mono (by omega)) rfl T.m_Ltake T.k_Ltake T.b_Ltake (fun σ => passAt tk σ) (pa_cons (pv 0) (pa_cons pe_int pa_nil))) (pa_cons (pe_tup pa_nil) (pa_cons (pe_tup (pa_cons (pe_callS G_Lnode (hr.mono (by omega)) rfl T.m_Lnode T.k_Lnode T.b_Lnode (fun σ => passAt tk σ) (pa_cons (pv 0) (pa_cons (pe_op op_addU (pv 1) pe_int) pa_nil))) (pa_cons (pe_callS G_Lnode (hr.mono (by omega)) rfl T.m_Lnode T.k_Lnode T.b_Lnode (fun σ => passAt tk σ) (pa_cons (pv 0) (pa_cons (pe_op op_addU (pv 1) pe_int) pa_nil))) pa_nil))) pa_nil))))))))))

theorem sc_Lworked : FnScope nm_Lworked ["_law_kind", "_law_one", "_law_other_here"] (defScope st_Lworked) := ⟨rfl, rfl, rfl, by decide +kernel, rfl, by decide +kernel, by decide +kernel⟩
theorem ok_Lworked {P : Program} {w : World} {base : Heap} {Z : Adr} (T : Top Z)  : FnOk P w Z.K Z.mg base (L2.CX P w) 1 Z.f_Lworked Z.d_Lworked ["_law_kind", "_law_one", "_law_other_here"] (sp_Lworked Z) := by
  refine FnOk.mono (T.F_Lworked.okX (k := 0) sc_Lworked (fun vs H Q E h => ?_) (fun cdv A outer s H vs Q E hr h => ?_)) (by decide)
  · obtain ⟨a0, a1, a2, rfl, _⟩ := h; rfl
  · obtain ⟨a0, a1, a2, rfl, h⟩ := h
    have tk : Takes (cxOf (L2.CX P w) P w Z.K Z.mg base nm_Lworked "_law_worked" (defScope st_Lworked) Z.f_Lworked cdv A outer s H E) (fun cls d _ H => E cls d H) := takes_of rfl rfl rfl rfl
    have po : PassesOwn (model P w) (cxOf (L2.CX P w) P w Z.K Z.mg base nm_Lworked "_law_worked" (defScope st_Lworked) Z.f_Lworked cdv A outer s H E).A (cxOf (L2.CX P w) P w Z.K Z.mg base nm_Lworked "_law_worked" (defScope st_Lworked) Z.f_Lworked cdv A outer s H E).env (cxOf (L2.CX P w) P w Z.K Z.mg base nm_Lworked "_law_worked" (defScope st_Lworked) Z.f_Lworked cdv A outer s H E).xe := passes_of rfl
    refine ⟨t_Lworked Z (fun cls d _ H => E cls d H), ?_, rd_Lworked T h⟩
    exact (pss_cons (ps_if (pt_cmpR op_lt (pv 0) pe_int (nomark _)) (pss_cons (ps_set (i := 3) sc_Lworked.nd rfl (Or.inl rfl) (pe_ix ix_seq (pe_lst (pa_cons (pe_op op_addU (pv 1) (pv 2)) (pa_cons (pe_op op_sub (pv 1) (pv 2)) (pa_cons (pe_op op_ml (pv 1) (pv 2)) pa_nil)))) (pe_op op_sub (pv 0) pe_int) (fun _ _ => rfl)))
      (pss_cons (ps_if (pt_cmpR op_ge (pe_callB call_abs' (by rfl) T.n_abs (by decide +kernel) (pa_cons (pv 3) pa_nil)) (pe_op op_ml (pe_powc (by unfold CPow; decide) (by decide +kernel)) (pe_powc (by unfold CPow; decide) (by decide +kernel))) (nomark _)) (pss_one (ps_ret pe_non)) pss_nil)
      (pss_one (ps_ret (pv 3))))) pss_nil)
      (pss_cons (ps_if (PW.pt (pw_and (pt_cmpR op_lt (pv 0) pe_int (nomark _)) (pw_and1 (pt_cmpR (op_eqU (hr.units)) (pv 2) pe_int (nomark _))))) (pss_one (ps_ret pe_non)) pss_nil)
      (pss_cons (ps_if (pt_cmpR (op_eqU (hr.units)) (pv 0) pe_int (nomark _)) (pss_one (ps_ret (pe_op op_fdv (pv 1) (pv 2)))) pss_nil)
      (pss_cons (ps_if (pt_cmpR (op_eqU (hr.units)) (pv 0) pe_int (nomark _)) (pss_one (ps_ret (pe_op op_sub (pv 1) (pe_op op_ml (pe_op op_fdv (pv 1) (pv 2)) (pv 2))))) pss_nil)
      (pss_one (ps_ret (pe_callTy call_int' (by rfl) T.n_int (by decide +kernel) (pa_cons (pe_ix ix_seq (pe_lst (pa_cons (pe_cmpR op_lt (pv 1) (pv 2) (nomark _)) (pa_cons (pe_cmpR (op_eqU (hr.units)) (pv 1) (pv 2) (nomark _)) pa_nil))) (pe_op op_sub (pv 0) pe_int) (fun _ _ => rfl)) pa_nil))))))))

theorem sc_Ldue : FnScope nm_Ldue ["_law_node_here"] (defScope st_Ldue) := ⟨rfl, rfl, rfl, by decide +kernel, rfl, by decide +kernel, by decide +kernel⟩
theorem ok_Ldue {P : Program} {w : World} {base : Heap} {Z : Adr} (T : Top Z) (n : Nat) (G_Ldue : FnOk P w Z.K Z.mg base (L2.CX P w) (1 + n) Z.f_Ldue Z.d_Ldue ["_law_node_here"] (sp_Ldue Z n)) (G_Lworked : FnOk P w Z.K Z.mg base (L2.CX P w) 1 Z.f_Lworked Z.d_Lworked ["_law_kind", "_law_one", "_law_other_here"] (sp_Lworked Z)) : FnOk P w Z.K Z.mg base (L2.CX P w) (1 + n + 1) Z.f_Ldue Z.d_Ldue ["_law_node_here"] (sp_Ldue Z (n + 1)) := by
  refine T.F_Ldue.okX (k := 1 + n) sc_Ldue (fun vs H Q E h => ?_) (fun cdv A outer s H vs Q E hr h => ?_)
  · obtain ⟨a0, rfl, _⟩ := h; rfl
  · obtain ⟨a0, rfl, h⟩ := h
    have tk : Takes (cxOf (L2.CX P w) P w Z.K Z.mg base nm_Ldue "_law_due" (defScope st_Ldue) Z.f_Ldue cdv A outer s H E) (fun cls d _ H => E cls d H) := takes_of rfl rfl rfl rfl
    have po : PassesOwn (model P w) (cxOf (L2.CX P w) P w Z.K Z.mg base nm_Ldue "_law_due" (defScope st_Ldue) Z.f_Ldue cdv A outer s H E).A (cxOf (L2.CX P w) P w Z.K Z.mg base nm_Ldue "_law_due" (defScope st_Ldue) Z.f_Ldue cdv A outer s H E).env (cxOf (L2.CX P w) P w Z.K Z.mg base nm_Ldue "_law_due" (defScope st_Ldue) Z.f_Ldue cdv A outer s H E).xe := passes_of rfl
    refine ⟨t_Ldue Z n (fun cls d _ H => E cls d H), ?_, rd_Ldue T h⟩
    exact (pss_cons (ps_asg (pv 0) (pg_un rfl (pgs_cons (pg_name (i := 1) sc_Ldue.nd rfl (Or.inl rfl)) (pgs_cons (pg_name (i := 2) sc_Ldue.nd rfl (Or.inl rfl)) (pgs_cons (pg_name (i := 3) sc_Ldue.nd rfl (Or.inl rfl)) (pgs_cons (pg_name (i := 4) sc_Ldue.nd rfl (Or.inl rfl)) pgs_nil))))))
      (pss_cons (ps_if (pt_cmpR (op_eqU (hr.units)) (pv 1) pe_int (nomark _)) (pss_one (ps_ret (pe_ix ix_seq (pv 3) pe_int (fun _ _ => rfl)))) pss_nil)
      (pss_cons (ps_if (PW.pt (pw_or (pt_cmpR op_lt (pv 1) pe_int (nomark _)) (pw_or1 (pt_cmpR op_gt (pv 1) pe_int (nomark _))))) (pss_one (ps_ret pe_non)) pss_nil)
      (pss_cons (ps_set (i := 5) sc_Ldue.nd rfl (Or.inl rfl) (pe_callS G_Ldue (hr.mono (by omega)) rfl T.m_Ldue T.k_Ldue T.b_Ldue (fun σ => passAt tk σ) (pa_cons (pe_ix ix_seq (pv 4) pe_int (fun _ _ => rfl)) pa_nil)))
      (pss_cons (ps_set (i := 6) sc_Ldue.nd rfl (Or.inl rfl) (pe_callS G_Ldue (hr.mono (by omega)) rfl T.m_Ldue T.k_Ldue T.b_Ldue (fun σ => passAt tk σ) (pa_cons (pe_ix ix_seq (pv 4) pe_int (fun _ _ => rfl)) pa_nil)))
      (pss_cons (ps_if (PW.pt (pw_or (pt_cmpR op_isNz (pv 5) pe_non (nomark _)) (pw_or1 (pt_cmpR op_isNz (pv 6) pe_non (nomark _))))) (pss_one (ps_ret pe_non)) pss_nil)
      (pss_one (ps_ret (pe_callS G_Lworked (hr.mono (by omega)) rfl T.m_Lworked T.k_Lworked T.b_Lworked (fun σ => passAt tk σ) (pa_cons (pv 1) (pa_cons (pv 5) (pa_cons (pv 6) pa_nil))))))))))))

theorem sc_law : FnScope nm_law ["_law_script"] (defScope st_law) := ⟨rfl, rfl, rfl, by decide +kernel, rfl, by decide +kernel, by decide +kernel⟩
theorem ok_law {P : Program} {w : World} {base : Heap} {Z : Adr} (T : Top Z) (G_Ltake : FnOk P w Z.K Z.mg base (L2.CX P w) 2 Z.f_Ltake Z.d_Ltake ["_law_state", "_law_most"] (sp_Ltake Z)) (G_Lnode : FnOk P w Z.K Z.mg base (L2.CX P w) (5 + 8) Z.f_Lnode Z.d_Lnode ["_law_state", "_law_deep"] (sp_Lnode Z 8)) (G_Ldue : FnOk P w Z.K Z.mg base (L2.CX P w) (1 + 10) Z.f_Ldue Z.d_Ldue ["_law_node_here"] (sp_Ldue Z 10)) (G_fixed : FnOk P w Z.K Z.mg base (L2.CX P w) (3 + 10) Z.f_fixed Z.d_fixed ["node"] (sp_fixed Z 10)) (G_Lother : FnOk P w Z.K Z.mg base (L2.CX P w) 5 Z.f_Lother Z.d_Lother ["_law_state"] (sp_Lother Z)) (G_Lleaf : FnOk P w Z.K Z.mg base (L2.CX P w) 4 Z.f_Lleaf Z.d_Lleaf ["_law_state"] (sp_Lleaf Z)) : FnOk P w Z.K Z.mg base (L2.CX P w) 14 Z.f_law Z.d_law ["_law_script"] (sp_law Z) := by
  refine FnOk.mono (T.F_law.okX (k := 13) sc_law (fun vs H Q E h => ?_) (fun cdv A outer s H vs Q E hr h => ?_)) (by decide)
  · obtain ⟨a0, rfl, _⟩ := h; rfl
  · obtain ⟨a0, rfl, h⟩ := h
    have tk : Takes (cxOf (L2.CX P w) P w Z.K Z.mg base nm_law "law" (defScope st_law) Z.f_law cdv A outer s H E) (fun cls d _ H => E cls d H) := takes_of rfl rfl rfl rfl
    have po : PassesOwn (model P w) (cxOf (L2.CX P w) P w Z.K Z.mg base nm_law "law" (defScope st_law) Z.f_law cdv A outer s H E).A (cxOf (L2.CX P w) P w Z.K Z.mg base nm_law "law" (defScope st_law) Z.f_law cdv A outer s H E).env (cxOf (L2.CX P w) P w Z.K Z.mg base nm_law "law" (defScope st_law) Z.f_law cdv A outer s H E).xe := passes_of rfl
    refine ⟨t_law Z (fun cls d _ H => E cls d H), ?_, rd_law T h⟩
    exact (pss_cons (ps_set (i := 1) sc_law.nd rfl (Or.inl rfl) (pe_lst (pa_cons (pv 0) (pa_cons pe_int (pa_cons pe_int (pa_cons pe_int (pa_cons pe_int pa_nil)))))))
      (pss_cons (ps_for po rfl (pi_range1 rfl T.n_range (pa_cons pe_int pa_nil)) (pg_name (i := 2) sc_law.nd rfl (Or.inl rfl)) (pss_cons (ps_asg pe_int (pg_sub (pv 1) pe_int set_list))
      (pss_cons (ps_asg (pe_callS G_Ltake (hr.mono (by decide)) rfl T.m_Ltake T.k_Ltake T.b_Ltake (fun σ => passAt tk σ) (pa_cons (pv 1) (pa_cons pe_int pa_nil))) (pg_sub (pv 1) pe_int set_list))
      (pss_cons (ps_set (i := 3) sc_law.nd rfl (Or.inl rfl) (pe_callS G_Lnode (hr.mono (by decide)) rfl T.m_Lnode T.k_Lnode T.b_Lnode (fun σ => passAt tk σ) (pa_cons (pv 1) (pa_cons pe_int pa_nil))))
      (pss_cons (ps_set (i := 4) sc_law.nd rfl (Or.inl rfl) (pe_callS G_Ldue (hr.mono (by decide)) rfl T.m_Ldue T.k_Ldue T.b_Ldue (fun σ => passAt tk σ) (pa_cons (pv 3) pa_nil)))
      (pss_cons (ps_for po rfl (pi_range1 rfl T.n_range (pa_cons pe_int pa_nil)) (pg_name (i := 5) sc_law.nd rfl (Or.inl rfl)) (pss_cons (ps_set (i := 6) sc_law.nd rfl (Or.inl rfl) (pe_callS G_fixed (hr.mono (by decide)) rfl T.m_fixed T.k_fixed T.b_fixed (fun σ => passAt tk σ) (pa_cons (pv 3) pa_nil)))
      (pss_one (ps_if (PW.pt (pw_or (pt_cmpR (op_neU (hr.units)) (pv 6) (pv 4) (nomark _)) (pw_or1 (pt_val (pe_callB call_isi' (by rfl) T.n_isinstance (by decide +kernel) (pa_cons (pv 6) (pa_cons (pe_bltn (by rfl) T.n_bool (by decide +kernel) rfl) pa_nil))))))) (pss_one (ps_ret pe_bl)) pss_nil))))
      (pss_cons (ps_set (i := 7) sc_law.nd rfl (Or.inl rfl) (pe_callS G_Lother (hr.mono (by decide)) rfl T.m_Lother T.k_Lother T.b_Lother (fun σ => passAt tk σ) (pa_cons (pv 1) pa_nil)))
      (pss_one (ps_if (PW.pt (pw_or (pt_cmpR op_notNz (pe_callS G_fixed (hr.mono (by decide)) rfl T.m_fixed T.k_fixed T.b_fixed (fun σ => passAt tk σ) (pa_cons (pv 7) pa_nil)) pe_non (nomark _)) (pw_or1 (pt_cmpR op_notNz (pe_callS G_fixed (hr.mono (by decide)) rfl T.m_fixed T.k_fixed T.b_fixed (fun σ => passAt tk σ) (pa_cons (pe_tup (pa_cons pe_int (pa_cons pe_int (pa_cons (pe_tup pa_nil) (pa_cons (pe_tup (pa_cons (pe_callS G_Lleaf (hr.mono (by decide)) rfl T.m_Lleaf T.k_Lleaf T.b_Lleaf (fun σ => passAt tk σ) (pa_cons (pv 1) pa_nil)) (pa_cons (pv 7) pa_nil))) pa_nil))))) pa_nil)) pe_non (nomark _))))) (pss_one (ps_ret pe_bl)) pss_nil)))))))))
      (pss_one (ps_ret pe_bl))))

theorem grp_fixed {P : Program} {w : World} {base : Heap} {Z : Adr} (T : Top Z) (G_worth : FnOk P w Z.K Z.mg base (L2.CX P w) 3 Z.f_worth Z.d_worth ["kind", "values", "rows"] (sp_worth Z)) : ∀ n : Nat, FnOk P w Z.K Z.mg base (L2.CX P w) (3 + n) Z.f_fixed Z.d_fixed ["node"] (sp_fixed Z n)
  | 0 => fn_none fun vs H Q E h => by obtain ⟨_, rfl, h⟩ := h; exact no_fixed h
  | n + 1 => by
    have ih := grp_fixed (P := P) (w := w) (base := base) T G_worth n
    have G_fixed := ih
    exact ok_fixed T n G_fixed G_worth

theorem grp_Lnode {P : Program} {w : World} {base : Heap} {Z : Adr} (T : Top Z) (G_Ltake : FnOk P w Z.K Z.mg base (L2.CX P w) 2 Z.f_Ltake Z.d_Ltake ["_law_state", "_law_most"] (sp_Ltake Z)) (G_Lother : FnOk P w Z.K Z.mg base (L2.CX P w) 5 Z.f_Lother Z.d_Lother ["_law_state"] (sp_Lother Z)) (G_Lleaf : FnOk P w Z.K Z.mg base (L2.CX P w) 4 Z.f_Lleaf Z.d_Lleaf ["_law_state"] (sp_Lleaf Z)) : ∀ n : Nat, FnOk P w Z.K Z.mg base (L2.CX P w) (5 + n) Z.f_Lnode Z.d_Lnode ["_law_state", "_law_deep"] (sp_Lnode Z n)
  | 0 => fn_none fun vs H Q E h => by obtain ⟨_, _, rfl, h⟩ := h; exact no_Lnode h
  | n + 1 => by
    have ih := grp_Lnode (P := P) (w := w) (base := base) T G_Ltake G_Lother G_Lleaf n
    have G_Lnode := ih
    exact ok_Lnode T n G_Ltake G_Lother G_Lleaf G_Lnode

theorem grp_Ldue {P : Program} {w : World} {base : Heap} {Z : Adr} (T : Top Z) (G_Lworked : FnOk P w Z.K Z.mg base (L2.CX P w) 1 Z.f_Lworked Z.d_Lworked ["_law_kind", "_law_one", "_law_other_here"] (sp_Lworked Z)) : ∀ n : Nat, FnOk P w Z.K Z.mg base (L2.CX P w) (1 + n) Z.f_Ldue Z.d_Ldue ["_law_node_here"] (sp_Ldue Z n)
  | 0 => fn_none fun vs H Q E h => by obtain ⟨_, rfl, h⟩ := h; exact no_Ldue h
  | n + 1 => by
    have ih := grp_Ldue (P := P) (w := w) (base := base) T G_Lworked n
    have G_Ldue := ih
    exact ok_Ldue T n G_Ldue G_Lworked
def sp_goal (K : PySem.W.Frag) : Sp := fun vs H Q _ => ∃ (a : Addr) (ns : List Int), vs = [.ref a] ∧ Only H ∧ Scr K H a ns ∧ ns.length ≤ 63 ∧ ∀ H', Q (.bl true) H'
theorem goal_law (Z : Adr) {vs : List V} {H : Hp} {Q : VK} {E : XK} (h : sp_goal Z.K vs H Q E) : sp_law Z vs H Q E := by
  obtain ⟨a, ns, rfl, h⟩ := h
  exact ⟨_, rfl, a, ns, rfl, h⟩
/-! ### the top, and the law's own head -/
theorem all_mk {l : PySem.W.OpenLaw} {w : World} {K : PySem.W.Frag} {h : Heap} {mg : Str → Option Value} {fa : Addr} (X : K.In h) (G : h.Ns mainGlobals mg) (hfa : mg "law" = some (.ref fa))
    {tk_ADD_deeds : Tok}
    {tk_SUB : Tok}
    {tk_MUL : Tok}
    {tk_QUO : Tok}
    {tk_REST : Tok}
    {tk_LESS : Tok}
    {tk_SAME_deeds : Tok}
    {tk_PUSH : Tok}
    {tk_AT : Tok}
    {tk_SIZE : Tok}
    {tk_MOST_FIGURES : Tok}
    {tk_NUMBER : Tok}
    {tk_ADD_kinds : Tok}
    {tk_SAME_kinds : Tok}
    {oc_summed kV_summed dc_summed pm_summed cd_summed ct_summed : Value} {od_summed an_summed : Option Addr} {sl_summed : Array (Option Value)} {f_summed : Addr}
    {oc_parted_by kV_parted_by dc_parted_by pm_parted_by cd_parted_by ct_parted_by : Value} {od_parted_by an_parted_by : Option Addr} {sl_parted_by : Array (Option Value)} {f_parted_by : Addr}
    {oc_of_numbers kV_of_numbers dc_of_numbers pm_of_numbers cd_of_numbers ct_of_numbers : Value} {od_of_numbers an_of_numbers : Option Addr} {sl_of_numbers : Array (Option Value)} {f_of_numbers : Addr}
    {oc_of_row kV_of_row dc_of_row pm_of_row cd_of_row ct_of_row : Value} {od_of_row an_of_row : Option Addr} {sl_of_row : Array (Option Value)} {f_of_row : Addr}
    {oc_worth kV_worth dc_worth pm_worth cd_worth ct_worth : Value} {od_worth an_worth : Option Addr} {sl_worth : Array (Option Value)} {f_worth : Addr}
    {oc_fixed kV_fixed dc_fixed pm_fixed cd_fixed ct_fixed : Value} {od_fixed an_fixed : Option Addr} {sl_fixed : Array (Option Value)} {f_fixed : Addr}
    {oc_Lcell kV_Lcell dc_Lcell pm_Lcell cd_Lcell ct_Lcell : Value} {od_Lcell an_Lcell : Option Addr} {sl_Lcell : Array (Option Value)} {f_Lcell : Addr}
    {oc_Ltake kV_Ltake dc_Ltake pm_Ltake cd_Ltake ct_Ltake : Value} {od_Ltake an_Ltake : Option Addr} {sl_Ltake : Array (Option Value)} {f_Ltake : Addr}
    {oc_Lnumber kV_Lnumber dc_Lnumber pm_Lnumber cd_Lnumber ct_Lnumber : Value} {od_Lnumber an_Lnumber : Option Addr} {sl_Lnumber : Array (Option Value)} {f_Lnumber : Addr}
    {oc_Lleaf kV_Lleaf dc_Lleaf pm_Lleaf cd_Lleaf ct_Lleaf : Value} {od_Lleaf an_Lleaf : Option Addr} {sl_Lleaf : Array (Option Value)} {f_Lleaf : Addr}
    {oc_Lother kV_Lother dc_Lother pm_Lother cd_Lother ct_Lother : Value} {od_Lother an_Lother : Option Addr} {sl_Lother : Array (Option Value)} {f_Lother : Addr}
    {oc_Lnode kV_Lnode dc_Lnode pm_Lnode cd_Lnode ct_Lnode : Value} {od_Lnode an_Lnode : Option Addr} {sl_Lnode : Array (Option Value)} {f_Lnode : Addr}
    {oc_Lworked kV_Lworked dc_Lworked pm_Lworked cd_Lworked ct_Lworked : Value} {od_Lworked an_Lworked : Option Addr} {sl_Lworked : Array (Option Value)} {f_Lworked : Addr}
    {oc_Ldue kV_Ldue dc_Ldue pm_Ldue cd_Ldue ct_Ldue : Value} {od_Ldue an_Ldue : Option Addr} {sl_Ldue : Array (Option Value)} {f_Ldue : Addr}
    {oc_law kV_law dc_law pm_law cd_law ct_law : Value} {od_law an_law : Option Addr} {sl_law : Array (Option Value)} {f_law : Addr}
    (i_ADD_deeds : PySem.W.nsIn K mainGlobals "ADD_deeds" = some (some (.int 8 tk_ADD_deeds)))
    (i_SUB : PySem.W.nsIn K mainGlobals "SUB" = some (some (.int 9 tk_SUB)))
    (i_MUL : PySem.W.nsIn K mainGlobals "MUL" = some (some (.int 10 tk_MUL)))
    (i_QUO : PySem.W.nsIn K mainGlobals "QUO" = some (some (.int 11 tk_QUO)))
    (i_REST : PySem.W.nsIn K mainGlobals "REST" = some (some (.int 12 tk_REST)))
    (i_LESS : PySem.W.nsIn K mainGlobals "LESS" = some (some (.int 13 tk_LESS)))
    (i_SAME_deeds : PySem.W.nsIn K mainGlobals "SAME_deeds" = some (some (.int 14 tk_SAME_deeds)))
    (i_PUSH : PySem.W.nsIn K mainGlobals "PUSH" = some (some (.int 15 tk_PUSH)))
    (i_AT : PySem.W.nsIn K mainGlobals "AT" = some (some (.int 16 tk_AT)))
    (i_SIZE : PySem.W.nsIn K mainGlobals "SIZE" = some (some (.int 18 tk_SIZE)))
    (i_MOST_FIGURES : PySem.W.nsIn K mainGlobals "MOST_FIGURES" = some (some (.int 100 tk_MOST_FIGURES)))
    (i_NUMBER : PySem.W.nsIn K mainGlobals "NUMBER" = some (some (.int 0 tk_NUMBER)))
    (i_ADD_kinds : PySem.W.nsIn K mainGlobals "ADD_kinds" = some (some (.int 8 tk_ADD_kinds)))
    (i_SAME_kinds : PySem.W.nsIn K mainGlobals "SAME_kinds" = some (some (.int 14 tk_SAME_kinds)))
    (z_abs : PySem.W.nsIn K mainGlobals "abs" = some none)
    (z_bool : PySem.W.nsIn K mainGlobals "bool" = some none)
    (z_int : PySem.W.nsIn K mainGlobals "int" = some none)
    (z_isinstance : PySem.W.nsIn K mainGlobals "isinstance" = some none)
    (z_len : PySem.W.nsIn K mainGlobals "len" = some none)
    (z_range : PySem.W.nsIn K mainGlobals "range" = some none)
    (z_str : PySem.W.nsIn K mainGlobals "str" = some none)
    (z_tuple : PySem.W.nsIn K mainGlobals "tuple" = some none)
    (a_summed : PySem.W.nsIn K mainGlobals "summed" = some (some (.ref f_summed)))
    (l_summed : K.lookup f_summed = some ⟨oc_summed, od_summed, .func (PySem.W.fnOf "summed" "summed" (defArgs st_summed) (defBody st_summed) (defScope st_summed) .none kV_summed dc_summed pm_summed an_summed cd_summed ct_summed), sl_summed⟩)
    (c_summed : PySem.W.codeIn K cd_summed "summed" = true)
    (k_summed : PySem.W.keepIn K (.ref f_summed) = true)
    (a_parted_by : PySem.W.nsIn K mainGlobals "parted_by" = some (some (.ref f_parted_by)))
    (l_parted_by : K.lookup f_parted_by = some ⟨oc_parted_by, od_parted_by, .func (PySem.W.fnOf "parted_by" "parted_by" (defArgs st_parted_by) (defBody st_parted_by) (defScope st_parted_by) .none kV_parted_by dc_parted_by pm_parted_by an_parted_by cd_parted_by ct_parted_by), sl_parted_by⟩)
    (c_parted_by : PySem.W.codeIn K cd_parted_by "parted_by" = true)
    (k_parted_by : PySem.W.keepIn K (.ref f_parted_by) = true)
    (a_of_numbers : PySem.W.nsIn K mainGlobals "of_numbers" = some (some (.ref f_of_numbers)))
    (l_of_numbers : K.lookup f_of_numbers = some ⟨oc_of_numbers, od_of_numbers, .func (PySem.W.fnOf "of_numbers" "of_numbers" (defArgs st_of_numbers) (defBody st_of_numbers) (defScope st_of_numbers) .none kV_of_numbers dc_of_numbers pm_of_numbers an_of_numbers cd_of_numbers ct_of_numbers), sl_of_numbers⟩)
    (c_of_numbers : PySem.W.codeIn K cd_of_numbers "of_numbers" = true)
    (k_of_numbers : PySem.W.keepIn K (.ref f_of_numbers) = true)
    (a_of_row : PySem.W.nsIn K mainGlobals "of_row" = some (some (.ref f_of_row)))
    (l_of_row : K.lookup f_of_row = some ⟨oc_of_row, od_of_row, .func (PySem.W.fnOf "of_row" "of_row" (defArgs st_of_row) (defBody st_of_row) (defScope st_of_row) .none kV_of_row dc_of_row pm_of_row an_of_row cd_of_row ct_of_row), sl_of_row⟩)
    (c_of_row : PySem.W.codeIn K cd_of_row "of_row" = true)
    (k_of_row : PySem.W.keepIn K (.ref f_of_row) = true)
    (a_worth : PySem.W.nsIn K mainGlobals "worth" = some (some (.ref f_worth)))
    (l_worth : K.lookup f_worth = some ⟨oc_worth, od_worth, .func (PySem.W.fnOf "worth" "worth" (defArgs st_worth) (defBody st_worth) (defScope st_worth) .none kV_worth dc_worth pm_worth an_worth cd_worth ct_worth), sl_worth⟩)
    (c_worth : PySem.W.codeIn K cd_worth "worth" = true)
    (k_worth : PySem.W.keepIn K (.ref f_worth) = true)
    (a_fixed : PySem.W.nsIn K mainGlobals "fixed" = some (some (.ref f_fixed)))
    (l_fixed : K.lookup f_fixed = some ⟨oc_fixed, od_fixed, .func (PySem.W.fnOf "fixed" "fixed" (defArgs st_fixed) (defBody st_fixed) (defScope st_fixed) .none kV_fixed dc_fixed pm_fixed an_fixed cd_fixed ct_fixed), sl_fixed⟩)
    (c_fixed : PySem.W.codeIn K cd_fixed "fixed" = true)
    (k_fixed : PySem.W.keepIn K (.ref f_fixed) = true)
    (a_Lcell : PySem.W.nsIn K mainGlobals "_law_cell" = some (some (.ref f_Lcell)))
    (l_Lcell : K.lookup f_Lcell = some ⟨oc_Lcell, od_Lcell, .func (PySem.W.fnOf "_law_cell" "_law_cell" (defArgs st_Lcell) (defBody st_Lcell) (defScope st_Lcell) .none kV_Lcell dc_Lcell pm_Lcell an_Lcell cd_Lcell ct_Lcell), sl_Lcell⟩)
    (c_Lcell : PySem.W.codeIn K cd_Lcell "_law_cell" = true)
    (k_Lcell : PySem.W.keepIn K (.ref f_Lcell) = true)
    (a_Ltake : PySem.W.nsIn K mainGlobals "_law_take" = some (some (.ref f_Ltake)))
    (l_Ltake : K.lookup f_Ltake = some ⟨oc_Ltake, od_Ltake, .func (PySem.W.fnOf "_law_take" "_law_take" (defArgs st_Ltake) (defBody st_Ltake) (defScope st_Ltake) .none kV_Ltake dc_Ltake pm_Ltake an_Ltake cd_Ltake ct_Ltake), sl_Ltake⟩)
    (c_Ltake : PySem.W.codeIn K cd_Ltake "_law_take" = true)
    (k_Ltake : PySem.W.keepIn K (.ref f_Ltake) = true)
    (a_Lnumber : PySem.W.nsIn K mainGlobals "_law_number" = some (some (.ref f_Lnumber)))
    (l_Lnumber : K.lookup f_Lnumber = some ⟨oc_Lnumber, od_Lnumber, .func (PySem.W.fnOf "_law_number" "_law_number" (defArgs st_Lnumber) (defBody st_Lnumber) (defScope st_Lnumber) .none kV_Lnumber dc_Lnumber pm_Lnumber an_Lnumber cd_Lnumber ct_Lnumber), sl_Lnumber⟩)
    (c_Lnumber : PySem.W.codeIn K cd_Lnumber "_law_number" = true)
    (k_Lnumber : PySem.W.keepIn K (.ref f_Lnumber) = true)
    (a_Lleaf : PySem.W.nsIn K mainGlobals "_law_leaf" = some (some (.ref f_Lleaf)))
    (l_Lleaf : K.lookup f_Lleaf = some ⟨oc_Lleaf, od_Lleaf, .func (PySem.W.fnOf "_law_leaf" "_law_leaf" (defArgs st_Lleaf) (defBody st_Lleaf) (defScope st_Lleaf) .none kV_Lleaf dc_Lleaf pm_Lleaf an_Lleaf cd_Lleaf ct_Lleaf), sl_Lleaf⟩)
    (c_Lleaf : PySem.W.codeIn K cd_Lleaf "_law_leaf" = true)
    (k_Lleaf : PySem.W.keepIn K (.ref f_Lleaf) = true)
    (a_Lother : PySem.W.nsIn K mainGlobals "_law_other" = some (some (.ref f_Lother)))
    (l_Lother : K.lookup f_Lother = some ⟨oc_Lother, od_Lother, .func (PySem.W.fnOf "_law_other" "_law_other" (defArgs st_Lother) (defBody st_Lother) (defScope st_Lother) .none kV_Lother dc_Lother pm_Lother an_Lother cd_Lother ct_Lother), sl_Lother⟩)
    (c_Lother : PySem.W.codeIn K cd_Lother "_law_other" = true)
    (k_Lother : PySem.W.keepIn K (.ref f_Lother) = true)
    (a_Lnode : PySem.W.nsIn K mainGlobals "_law_node" = some (some (.ref f_Lnode)))
    (l_Lnode : K.lookup f_Lnode = some ⟨oc_Lnode, od_Lnode, .func (PySem.W.fnOf "_law_node" "_law_node" (defArgs st_Lnode) (defBody st_Lnode) (defScope st_Lnode) .none kV_Lnode dc_Lnode pm_Lnode an_Lnode cd_Lnode ct_Lnode), sl_Lnode⟩)
    (c_Lnode : PySem.W.codeIn K cd_Lnode "_law_node" = true)
    (k_Lnode : PySem.W.keepIn K (.ref f_Lnode) = true)
    (a_Lworked : PySem.W.nsIn K mainGlobals "_law_worked" = some (some (.ref f_Lworked)))
    (l_Lworked : K.lookup f_Lworked = some ⟨oc_Lworked, od_Lworked, .func (PySem.W.fnOf "_law_worked" "_law_worked" (defArgs st_Lworked) (defBody st_Lworked) (defScope st_Lworked) .none kV_Lworked dc_Lworked pm_Lworked an_Lworked cd_Lworked ct_Lworked), sl_Lworked⟩)
    (c_Lworked : PySem.W.codeIn K cd_Lworked "_law_worked" = true)
    (k_Lworked : PySem.W.keepIn K (.ref f_Lworked) = true)
    (a_Ldue : PySem.W.nsIn K mainGlobals "_law_due" = some (some (.ref f_Ldue)))
    (l_Ldue : K.lookup f_Ldue = some ⟨oc_Ldue, od_Ldue, .func (PySem.W.fnOf "_law_due" "_law_due" (defArgs st_Ldue) (defBody st_Ldue) (defScope st_Ldue) .none kV_Ldue dc_Ldue pm_Ldue an_Ldue cd_Ldue ct_Ldue), sl_Ldue⟩)
    (c_Ldue : PySem.W.codeIn K cd_Ldue "_law_due" = true)
    (k_Ldue : PySem.W.keepIn K (.ref f_Ldue) = true)
    (a_law : PySem.W.nsIn K mainGlobals "law" = some (some (.ref f_law)))
    (l_law : K.lookup f_law = some ⟨oc_law, od_law, .func (PySem.W.fnOf "law" "law" (defArgs st_law) (defBody st_law) (defScope st_law) .none kV_law dc_law pm_law an_law cd_law ct_law), sl_law⟩)
    (c_law : PySem.W.codeIn K cd_law "law" = true)
    (k_law : PySem.W.keepIn K (.ref f_law) = true) :
    ∃ fd : FuncData, (∀ (s : Shared) (v : Value), BindsTo s fd ⟨[v], []⟩ [("_law_script", v)]) ∧ ∀ base : Heap, K.In base → base.Ns mainGlobals mg → ∃ Z : Adr, Z.K = K ∧ FnOk l.prog w K mg base (L2.CX l.prog w) 14 fa fd ["_law_script"] (sp_law Z) := by
  have e := hfa.symm.trans (PySem.W.mg_of X G a_law)
  cases e
  let Z : Adr := {
      K := K
      mg := mg
      t_ADD_deeds := tk_ADD_deeds
      t_SUB := tk_SUB
      t_MUL := tk_MUL
      t_QUO := tk_QUO
      t_REST := tk_REST
      t_LESS := tk_LESS
      t_SAME_deeds := tk_SAME_deeds
      t_PUSH := tk_PUSH
      t_AT := tk_AT
      t_SIZE := tk_SIZE
      t_MOST_FIGURES := tk_MOST_FIGURES
      t_NUMBER := tk_NUMBER
      t_ADD_kinds := tk_ADD_kinds
      t_SAME_kinds := tk_SAME_kinds
      f_summed := f_summed
      d_summed := PySem.W.fnOf "summed" "summed" (defArgs st_summed) (defBody st_summed) (defScope st_summed) .none kV_summed dc_summed pm_summed an_summed cd_summed ct_summed
      f_parted_by := f_parted_by
      d_parted_by := PySem.W.fnOf "parted_by" "parted_by" (defArgs st_parted_by) (defBody st_parted_by) (defScope st_parted_by) .none kV_parted_by dc_parted_by pm_parted_by an_parted_by cd_parted_by ct_parted_by
      f_of_numbers := f_of_numbers
      d_of_numbers := PySem.W.fnOf "of_numbers" "of_numbers" (defArgs st_of_numbers) (defBody st_of_numbers) (defScope st_of_numbers) .none kV_of_numbers dc_of_numbers pm_of_numbers an_of_numbers cd_of_numbers ct_of_numbers
      f_of_row := f_of_row
      d_of_row := PySem.W.fnOf "of_row" "of_row" (defArgs st_of_row) (defBody st_of_row) (defScope st_of_row) .none kV_of_row dc_of_row pm_of_row an_of_row cd_of_row ct_of_row
      f_worth := f_worth
      d_worth := PySem.W.fnOf "worth" "worth" (defArgs st_worth) (defBody st_worth) (defScope st_worth) .none kV_worth dc_worth pm_worth an_worth cd_worth ct_worth
      f_fixed := f_fixed
      d_fixed := PySem.W.fnOf "fixed" "fixed" (defArgs st_fixed) (defBody st_fixed) (defScope st_fixed) .none kV_fixed dc_fixed pm_fixed an_fixed cd_fixed ct_fixed
      f_Lcell := f_Lcell
      d_Lcell := PySem.W.fnOf "_law_cell" "_law_cell" (defArgs st_Lcell) (defBody st_Lcell) (defScope st_Lcell) .none kV_Lcell dc_Lcell pm_Lcell an_Lcell cd_Lcell ct_Lcell
      f_Ltake := f_Ltake
      d_Ltake := PySem.W.fnOf "_law_take" "_law_take" (defArgs st_Ltake) (defBody st_Ltake) (defScope st_Ltake) .none kV_Ltake dc_Ltake pm_Ltake an_Ltake cd_Ltake ct_Ltake
      f_Lnumber := f_Lnumber
      d_Lnumber := PySem.W.fnOf "_law_number" "_law_number" (defArgs st_Lnumber) (defBody st_Lnumber) (defScope st_Lnumber) .none kV_Lnumber dc_Lnumber pm_Lnumber an_Lnumber cd_Lnumber ct_Lnumber
      f_Lleaf := f_Lleaf
      d_Lleaf := PySem.W.fnOf "_law_leaf" "_law_leaf" (defArgs st_Lleaf) (defBody st_Lleaf) (defScope st_Lleaf) .none kV_Lleaf dc_Lleaf pm_Lleaf an_Lleaf cd_Lleaf ct_Lleaf
      f_Lother := f_Lother
      d_Lother := PySem.W.fnOf "_law_other" "_law_other" (defArgs st_Lother) (defBody st_Lother) (defScope st_Lother) .none kV_Lother dc_Lother pm_Lother an_Lother cd_Lother ct_Lother
      f_Lnode := f_Lnode
      d_Lnode := PySem.W.fnOf "_law_node" "_law_node" (defArgs st_Lnode) (defBody st_Lnode) (defScope st_Lnode) .none kV_Lnode dc_Lnode pm_Lnode an_Lnode cd_Lnode ct_Lnode
      f_Lworked := f_Lworked
      d_Lworked := PySem.W.fnOf "_law_worked" "_law_worked" (defArgs st_Lworked) (defBody st_Lworked) (defScope st_Lworked) .none kV_Lworked dc_Lworked pm_Lworked an_Lworked cd_Lworked ct_Lworked
      f_Ldue := f_Ldue
      d_Ldue := PySem.W.fnOf "_law_due" "_law_due" (defArgs st_Ldue) (defBody st_Ldue) (defScope st_Ldue) .none kV_Ldue dc_Ldue pm_Ldue an_Ldue cd_Ldue ct_Ldue
      f_law := fa
      d_law := PySem.W.fnOf "law" "law" (defArgs st_law) (defBody st_law) (defScope st_law) .none kV_law dc_law pm_law an_law cd_law ct_law }
  have T : Top Z := {
      g_ADD_deeds := PySem.W.mg_of X G i_ADD_deeds
      g_SUB := PySem.W.mg_of X G i_SUB
      g_MUL := PySem.W.mg_of X G i_MUL
      g_QUO := PySem.W.mg_of X G i_QUO
      g_REST := PySem.W.mg_of X G i_REST
      g_LESS := PySem.W.mg_of X G i_LESS
      g_SAME_deeds := PySem.W.mg_of X G i_SAME_deeds
      g_PUSH := PySem.W.mg_of X G i_PUSH
      g_AT := PySem.W.mg_of X G i_AT
      g_SIZE := PySem.W.mg_of X G i_SIZE
      g_MOST_FIGURES := PySem.W.mg_of X G i_MOST_FIGURES
      g_NUMBER := PySem.W.mg_of X G i_NUMBER
      g_ADD_kinds := PySem.W.mg_of X G i_ADD_kinds
      g_SAME_kinds := PySem.W.mg_of X G i_SAME_kinds
      n_abs := PySem.W.mg_none_of X G z_abs
      n_bool := PySem.W.mg_none_of X G z_bool
      n_int := PySem.W.mg_none_of X G z_int
      n_isinstance := PySem.W.mg_none_of X G z_isinstance
      n_len := PySem.W.mg_none_of X G z_len
      n_range := PySem.W.mg_none_of X G z_range
      n_str := PySem.W.mg_none_of X G z_str
      n_tuple := PySem.W.mg_none_of X G z_tuple
      m_summed := PySem.W.mg_of X G a_summed
      F_summed := fun_mk (st := st_summed) l_summed c_summed k_summed
      b_summed := (fun_mk (st := st_summed) l_summed c_summed k_summed).binds (ps := ["kind", "one", "other"]) fun _ _ _ _ _ _ us hl => match us, hl with | [_, _, _], _ => rfl
      m_parted_by := PySem.W.mg_of X G a_parted_by
      F_parted_by := fun_mk (st := st_parted_by) l_parted_by c_parted_by k_parted_by
      b_parted_by := (fun_mk (st := st_parted_by) l_parted_by c_parted_by k_parted_by).binds (ps := ["kind", "one", "other"]) fun _ _ _ _ _ _ us hl => match us, hl with | [_, _, _], _ => rfl
      m_of_numbers := PySem.W.mg_of X G a_of_numbers
      F_of_numbers := fun_mk (st := st_of_numbers) l_of_numbers c_of_numbers k_of_numbers
      b_of_numbers := (fun_mk (st := st_of_numbers) l_of_numbers c_of_numbers k_of_numbers).binds (ps := ["kind", "values"]) fun _ _ _ _ _ _ us hl => match us, hl with | [_, _], _ => rfl
      m_of_row := PySem.W.mg_of X G a_of_row
      F_of_row := fun_mk (st := st_of_row) l_of_row c_of_row k_of_row
      b_of_row := (fun_mk (st := st_of_row) l_of_row c_of_row k_of_row).binds (ps := ["kind", "values", "row"]) fun _ _ _ _ _ _ us hl => match us, hl with | [_, _, _], _ => rfl
      m_worth := PySem.W.mg_of X G a_worth
      F_worth := fun_mk (st := st_worth) l_worth c_worth k_worth
      b_worth := (fun_mk (st := st_worth) l_worth c_worth k_worth).binds (ps := ["kind", "values", "rows"]) fun _ _ _ _ _ _ us hl => match us, hl with | [_, _, _], _ => rfl
      m_fixed := PySem.W.mg_of X G a_fixed
      F_fixed := fun_mk (st := st_fixed) l_fixed c_fixed k_fixed
      b_fixed := (fun_mk (st := st_fixed) l_fixed c_fixed k_fixed).binds (ps := ["node"]) fun _ _ _ _ _ _ us hl => match us, hl with | [_], _ => rfl
      m_Lcell := PySem.W.mg_of X G a_Lcell
      F_Lcell := fun_mk (st := st_Lcell) l_Lcell c_Lcell k_Lcell
      b_Lcell := (fun_mk (st := st_Lcell) l_Lcell c_Lcell k_Lcell).binds (ps := ["_law_script", "_law_k"]) fun _ _ _ _ _ _ us hl => match us, hl with | [_, _], _ => rfl
      m_Ltake := PySem.W.mg_of X G a_Ltake
      F_Ltake := fun_mk (st := st_Ltake) l_Ltake c_Ltake k_Ltake
      b_Ltake := (fun_mk (st := st_Ltake) l_Ltake c_Ltake k_Ltake).binds (ps := ["_law_state", "_law_most"]) fun _ _ _ _ _ _ us hl => match us, hl with | [_, _], _ => rfl
      m_Lnumber := PySem.W.mg_of X G a_Lnumber
      F_Lnumber := fun_mk (st := st_Lnumber) l_Lnumber c_Lnumber k_Lnumber
      b_Lnumber := (fun_mk (st := st_Lnumber) l_Lnumber c_Lnumber k_Lnumber).binds (ps := ["_law_state"]) fun _ _ _ _ _ _ us hl => match us, hl with | [_], _ => rfl
      m_Lleaf := PySem.W.mg_of X G a_Lleaf
      F_Lleaf := fun_mk (st := st_Lleaf) l_Lleaf c_Lleaf k_Lleaf
      b_Lleaf := (fun_mk (st := st_Lleaf) l_Lleaf c_Lleaf k_Lleaf).binds (ps := ["_law_state"]) fun _ _ _ _ _ _ us hl => match us, hl with | [_], _ => rfl
      m_Lother := PySem.W.mg_of X G a_Lother
      F_Lother := fun_mk (st := st_Lother) l_Lother c_Lother k_Lother
      b_Lother := (fun_mk (st := st_Lother) l_Lother c_Lother k_Lother).binds (ps := ["_law_state"]) fun _ _ _ _ _ _ us hl => match us, hl with | [_], _ => rfl
      m_Lnode := PySem.W.mg_of X G a_Lnode
      F_Lnode := fun_mk (st := st_Lnode) l_Lnode c_Lnode k_Lnode
      b_Lnode := (fun_mk (st := st_Lnode) l_Lnode c_Lnode k_Lnode).binds (ps := ["_law_state", "_law_deep"]) fun _ _ _ _ _ _ us hl => match us, hl with | [_, _], _ => rfl
      m_Lworked := PySem.W.mg_of X G a_Lworked
      F_Lworked := fun_mk (st := st_Lworked) l_Lworked c_Lworked k_Lworked
      b_Lworked := (fun_mk (st := st_Lworked) l_Lworked c_Lworked k_Lworked).binds (ps := ["_law_kind", "_law_one", "_law_other_here"]) fun _ _ _ _ _ _ us hl => match us, hl with | [_, _, _], _ => rfl
      m_Ldue := PySem.W.mg_of X G a_Ldue
      F_Ldue := fun_mk (st := st_Ldue) l_Ldue c_Ldue k_Ldue
      b_Ldue := (fun_mk (st := st_Ldue) l_Ldue c_Ldue k_Ldue).binds (ps := ["_law_node_here"]) fun _ _ _ _ _ _ us hl => match us, hl with | [_], _ => rfl
      m_law := PySem.W.mg_of X G a_law
      F_law := fun_mk (st := st_law) l_law c_law k_law
      b_law := (fun_mk (st := st_law) l_law c_law k_law).binds (ps := ["_law_script"]) fun _ _ _ _ _ _ us hl => match us, hl with | [_], _ => rfl }
  refine ⟨Z.d_law, fun s v => .of_eq rfl, fun base _ _ => ⟨Z, rfl, ?_⟩⟩
  have G_Lcell := ok_Lcell (P := l.prog) (w := w) (base := base) T 
  have G_Ltake := ok_Ltake (P := l.prog) (w := w) (base := base) T G_Lcell
  have G_Lnumber := ok_Lnumber (P := l.prog) (w := w) (base := base) T G_Ltake
  have G_Lleaf := ok_Lleaf (P := l.prog) (w := w) (base := base) T G_Ltake G_Lnumber
  have G_Lother := ok_Lother (P := l.prog) (w := w) (base := base) T G_Ltake G_Lleaf
  have GG := grp_Lnode (P := l.prog) (w := w) (base := base) T G_Ltake G_Lother G_Lleaf 8
  have G_Lnode := GG
  have G_Lworked := ok_Lworked (P := l.prog) (w := w) (base := base) T 
  have GG := grp_Ldue (P := l.prog) (w := w) (base := base) T G_Lworked 10
  have G_Ldue := GG
  have G_summed := ok_summed (P := l.prog) (w := w) (base := base) T 
  have G_parted_by := ok_parted_by (P := l.prog) (w := w) (base := base) T 
  have G_of_numbers := ok_of_numbers (P := l.prog) (w := w) (base := base) T G_summed G_parted_by
  have G_of_row := ok_of_row (P := l.prog) (w := w) (base := base) T 
  have G_worth := ok_worth (P := l.prog) (w := w) (base := base) T G_of_numbers G_of_row
  have GG := grp_fixed (P := l.prog) (w := w) (base := base) T G_worth 10
  have G_fixed := GG
  have G_law := ok_law (P := l.prog) (w := w) (base := base) T G_Ltake G_Lnode G_Ldue G_fixed G_Lother G_Lleaf
  exact G_law
theorem walk {l : PySem.W.OpenLaw} {q : Program} {loose : List Str} {XP : (Str → Option Value) → Heap → Prop} {YP : World → Heap → Prop} {d : DefRec} {K : Params → PySem.W.Frag} (hn : l.most = some 63) (hdf : d.params.defaults = [])
    (hY : ∀ (w : World) (h : Heap), YP w h → (K w.params).In h)
    (F : ∀ (w : World) (mg : Str → Option Value) (fa : Addr) (h : Heap), (K w.params).In h → h.Ns mainGlobals mg → mg d.name = some (.ref fa) →
      ∃ fd : FuncData, (∀ (s : Shared) (u : Value), BindsTo s fd ⟨[u], []⟩ [("_law_script", u)]) ∧ ∀ base : Heap, (K w.params).In base → base.Ns mainGlobals mg → ∃ Z : Adr, Z.K = K w.params ∧ FnOk l.prog w (K w.params) mg base (L2.CX l.prog w) 14 fa fd ["_law_script"] (sp_law Z)) :
    PySem.W.WalkO q loose XP YP l.row.toRowW d [] (fun f vs => PySem.call f vs) :=
  L2.walk_of (n := 63) (k := 14) (x := "_law_script") (CX := fun w => L2.CX l.prog w) (sp := fun w => sp_goal (K w.params)) hn (by decide) hdf ⟨rfl, by decide, by decide⟩ hY
    (fun w mg fa h a b c => by
      obtain ⟨fd, hb, z⟩ := F w mg fa h a b c
      refine ⟨fd, hb, fun base e f => ?_⟩
      obtain ⟨Z, hZ, g⟩ := z base e f
      exact g.imp fun vs H Q E q => goal_law Z (hZ ▸ q))
    (fun w H a ns hl hO hS => ⟨a, ns, rfl, hO, Scr.of hO hS, hl, fun _ => rfl⟩) fun w H s e s' z => by
      obtain ⟨_, _, _, _, _, _, _, _, _, _, _, _, z⟩ := z
      exact z.elim
end My
open PySem PySem.W PyProof.Rows
set_option maxRecDepth 100000 in
set_option maxHeartbeats 0 in
theorem PySem.Challenge.cw_ownchain_k34_values_that_are_fixed_holds : PySem.Challenge.rw_ownchain_k34_values_that_are_fixed.Holds := by
  w_on; o_law; k_head; (case hw => w_witness2)
  k_fill
  refine My.walk (l := PySem.Challenge.rw_ownchain_k34_values_that_are_fixed) rfl rfl (fun w h Y => PySem.W.kIn_of Y) ?F
  case F =>
    intro w mg fa h KX G hmg
    refine' My.all_mk KX G hmg ?i_ADD_deeds ?i_SUB ?i_MUL ?i_QUO ?i_REST ?i_LESS ?i_SAME_deeds ?i_PUSH ?i_AT ?i_SIZE ?i_MOST_FIGURES ?i_NUMBER ?i_ADD_kinds ?i_SAME_kinds ?z_abs ?z_bool ?z_int ?z_isinstance ?z_len ?z_range ?z_str ?z_tuple ?a_summed ?l_summed ?c_summed ?k_summed ?a_parted_by ?l_parted_by ?c_parted_by ?k_parted_by ?a_of_numbers ?l_of_numbers ?c_of_numbers ?k_of_numbers ?a_of_row ?l_of_row ?c_of_row ?k_of_row ?a_worth ?l_worth ?c_worth ?k_worth ?a_fixed ?l_fixed ?c_fixed ?k_fixed ?a_Lcell ?l_Lcell ?c_Lcell ?k_Lcell ?a_Ltake ?l_Ltake ?c_Ltake ?k_Ltake ?a_Lnumber ?l_Lnumber ?c_Lnumber ?k_Lnumber ?a_Lleaf ?l_Lleaf ?c_Lleaf ?k_Lleaf ?a_Lother ?l_Lother ?c_Lother ?k_Lother ?a_Lnode ?l_Lnode ?c_Lnode ?k_Lnode ?a_Lworked ?l_Lworked ?c_Lworked ?k_Lworked ?a_Ldue ?l_Ldue ?c_Ldue ?k_Ldue ?a_law ?l_law ?c_law ?k_law
    (case i_ADD_deeds => k_is)
    (case i_SUB => k_is)
    (case i_MUL => k_is)
    (case i_QUO => k_is)
    (case i_REST => k_is)
    (case i_LESS => k_is)
    (case i_SAME_deeds => k_is)
    (case i_PUSH => k_is)
    (case i_AT => k_is)
    (case i_SIZE => k_is)
    (case i_MOST_FIGURES => k_is)
    (case i_NUMBER => k_is)
    (case i_ADD_kinds => k_is)
    (case i_SAME_kinds => k_is)
    (case z_abs => k_is)
    (case z_bool => k_is)
    (case z_int => k_is)
    (case z_isinstance => k_is)
    (case z_len => k_is)
    (case z_range => k_is)
    (case z_str => k_is)
    (case z_tuple => k_is)
    (case a_summed => k_is)
    (case l_summed => k_is)
    (case c_summed => k_is)
    (case k_summed => k_is)
    (case a_parted_by => k_is)
    (case l_parted_by => k_is)
    (case c_parted_by => k_is)
    (case k_parted_by => k_is)
    (case a_of_numbers => k_is)
    (case l_of_numbers => k_is)
    (case c_of_numbers => k_is)
    (case k_of_numbers => k_is)
    (case a_of_row => k_is)
    (case l_of_row => k_is)
    (case c_of_row => k_is)
    (case k_of_row => k_is)
    (case a_worth => k_is)
    (case l_worth => k_is)
    (case c_worth => k_is)
    (case k_worth => k_is)
    (case a_fixed => k_is)
    (case l_fixed => k_is)
    (case c_fixed => k_is)
    (case k_fixed => k_is)
    (case a_Lcell => k_is)
    (case l_Lcell => k_is)
    (case c_Lcell => k_is)
    (case k_Lcell => k_is)
    (case a_Ltake => k_is)
    (case l_Ltake => k_is)
    (case c_Ltake => k_is)
    (case k_Ltake => k_is)
    (case a_Lnumber => k_is)
    (case l_Lnumber => k_is)
    (case c_Lnumber => k_is)
    (case k_Lnumber => k_is)
    (case a_Lleaf => k_is)
    (case l_Lleaf => k_is)
    (case c_Lleaf => k_is)
    (case k_Lleaf => k_is)
    (case a_Lother => k_is)
    (case l_Lother => k_is)
    (case c_Lother => k_is)
    (case k_Lother => k_is)
    (case a_Lnode => k_is)
    (case l_Lnode => k_is)
    (case c_Lnode => k_is)
    (case k_Lnode => k_is)
    (case a_Lworked => k_is)
    (case l_Lworked => k_is)
    (case c_Lworked => k_is)
    (case k_Lworked => k_is)
    (case a_Ldue => k_is)
    (case l_Ldue => k_is)
    (case c_Ldue => k_is)
    (case k_Ldue => k_is)
    (case a_law => k_is)
    (case l_law => k_is)
    (case c_law => k_is)
    (case k_law => k_is)
