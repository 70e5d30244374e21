import PyProof.Rows.All
import Wide.All
import OpenK.AllK
import Wide.FinOn
import HandS.ForMost
import HandS.ForExc
import HandS.IsInst
import HandS.Wide
import HandS.TryOnly
import HandS.Codes
import PySem.Challenge.RW_ownchain_k16_worths_of_rows
set_option Elab.async false
set_option linter.all false
set_option maxRecDepth 100000
set_option maxHeartbeats 8000000
set_option Elab.async false
set_option linter.all false
set_option maxRecDepth 100000
set_option maxHeartbeats 4000000
/-! Step lemmas over the hand layer's readings: each goal of a reading is turned by one lemma. -/
namespace Z
open PySem PySem.Spec PyProof.Rows L2

abbrev kS (s : Str) : Key := Sum.inr s
abbrev kI (i : Int) : Key := Sum.inl i
/-! ### universal rules: by the values -/
section
variable {X : Cx}
def rFdv : R2 := rI (fun _ j => j ≠ 0 ∧ j.natAbs.log2 < 9000) fun i j => .int (i.fdiv j)
theorem op_fdv : OpR X (binaryOp .FloorDiv) rFdv := opI fun i j _ _ _ _ _ hc q => floordiv_int hc.1 q (.inl (PyProof.noPylong_of_log2 hc.2))
def rMod : R2 := rI (fun _ j => j ≠ 0) fun i j => .int (i.fmod j)
theorem op_md : OpR X (binaryOp .Mod) rMod := op_modN
def rMul : R2 := rI (fun i j => CMul i j ∨ CMulW i j) fun i j => .int (i * j)
theorem op_ml : OpR X (binaryOp .Mult) rMul := opI fun _ _ _ _ _ _ _ hc q => mul_int q (hc.elim CMul.ok CMulW.ok)
def rAddI : R2 := rI0 fun i j => .int (i + j)
def rAddS : R2 := fun x y H Q => ∃ i j, x = .str i ∧ y = .str j ∧ i.length + j.length ≤ sizeLine ∧ Q (.str (i ++ j)) H
def rAddU (K : PySem.W.Frag) : R2 := fun x y H Q => rAddI x y H Q ∨ rAddS x y H Q ∨ rCat x y H Q ∨ rCatT K x y H Q
theorem op_addU : OpR X (binaryOp .Add) (rAddU X.K) := OpR.or op_add (OpR.or op_add_str (OpR.or op_cat op_catT))
def rEqU (K : PySem.W.Frag) : R2 := fun x y H Q => rEq x y H Q ∨ rEqD K x y H Q
theorem op_eqU (hu : X.A.units + 64 < cLine) : OpR X (compareOp .Eq) (rEqU X.K) := OpR.or op_eq (op_eqD hu)
def rNeU (K : PySem.W.Frag) : R2 := fun x y H Q => rNe x y H Q ∨ rNeD K x y H Q
theorem op_neU (hu : X.A.units + 64 < cLine) : OpR X (compareOp .NotEq) (rNeU X.K) := OpR.or op_ne (op_neD hu)
def rLen (K : PySem.W.Frag) : List V → Hp → VK → Prop := fun xs H Q => ∃ x n, xs = [x] ∧ LenV K x H n ∧ Q (.int (n : Nat)) H
theorem call_len' : CallR X (.builtin "len") (rLen X.K) := call_len
theorem pe_powc {b n z : Int} {k k' : Nat} {p p' pos : Pos} (hc : CPow b n) (h : b ^ n.toNat = z) : PE X (.BinOp (.Constant (.int b) k p) .Pow (.Constant (.int n) k' p') pos) (tC (.int z)) :=
  ⟨fun pins s σ H Q I q => (pe_op op_pow pe_int pe_int).run pins s σ H Q I ⟨b, n, rfl, rfl, hc, by show Q (.int (b ^ n.toNat)) H; rw [h]; exact q⟩⟩
def rMin2 : List V → Hp → VK → Prop := fun xs H Q => ∃ i j, xs = [.int i, .int j] ∧ Q (.int (if j < i then j else i)) H
theorem call_min' (hc : X.calm = true) : CallR X (.builtin "min") rMin2 := call_min2 hc
def rMax2 : List V → Hp → VK → Prop := fun xs H Q => ∃ i j, xs = [.int i, .int j] ∧ Q (.int (if j > i then j else i)) H
theorem call_max' (hc : X.calm = true) : CallR X (.builtin "max") rMax2 := call_max2 hc
def rListOf (K : PySem.W.Frag) : List V → Hp → VK → Prop := fun xs H Q => ∃ p ys, xs = [.ref p] ∧ (SqL K H p ys ∨ SqT K H p ys) ∧ ∀ l, H l = none → Q (.ref l) (upd H l (.lst ys))
theorem call_list' : CallR X (.type "list") (rListOf X.K) := call_list_of
def rTupOf (K : PySem.W.Frag) : List V → Hp → VK → Prop := fun xs H Q => ∃ p ys, xs = [.ref p] ∧ ((SqL K H p ys ∧ ∀ l, H l = none → Q (.ref l) (upd H l (.tup ys))) ∨ (SqT K H p ys ∧ Q (.ref p) H))
theorem call_tuple' : CallR X (.type "tuple") (rTupOf X.K) := call_tuple_of
def rInt1 : List V → Hp → VK → Prop := fun xs H Q => (∃ i, xs = [.int i] ∧ Q (.int i) H) ∨ ∃ k, xs = [.bl k] ∧ Q (.int (if k then 1 else 0)) H
theorem call_int' : CallR X (.type "int") rInt1 := call_int1
def rAbs : List V → Hp → VK → Prop := fun xs H Q => ∃ i, xs = [.int i] ∧ Q (.int (if i < 0 then -i else i)) H
theorem call_abs' : CallR X (.builtin "abs") rAbs := call_abs
def rStrI : List V → Hp → VK → Prop := fun xs H Q => ∃ i, xs = [.int i] ∧ i.natAbs.log2 < 1920 ∧ Q (.str (toString i)) H
theorem call_str' : CallR X (.type "str") rStrI := call_str_int
def rIsNz : R2 := fun x y H Q => y = .non ∧ Q (.bl (decide (x = .non))) H
theorem op_isNz : OpR X (compareOp .Is) rIsNz := op_isN
def rNotNz : R2 := fun x y H Q => y = .non ∧ Q (.bl (!decide (x = .non))) H
theorem op_notNz : OpR X (compareOp .IsNot) rNotNz := op_notN
/-- a, b = a tuple or a list -/
def gUn (K : PySem.W.Frag) (n : Nat) (t : TGs) : TG := fun v σ H Q => gTup K n t v σ H Q ∨ gLst K n t v σ H Q
theorem pg_un {pos : Pos} {es : List Expr} {k : Nat} {t : TGs} {n : Nat} (hc : X.calm = true) (h : PGs X es t)
    (hn : (assignEach es X.env).length = n := by rfl) (hst : (assignEach es X.env).findIdx? (·.1) = none := by rfl) : PG X (.Tuple es k pos) (gUn X.K n t) :=
  ⟨fun pins s σ H v u Q I r hw => hw.elim (fun z => (pg_tup hc h hn hst).run pins s σ H v u Q I r z) fun z => (pg_lst hc h hn hst).run pins s σ H v u Q I r z⟩
def rIsi2 (K : PySem.W.Frag) : List V → Hp → VK → Prop := fun xs H Q => rIsi K xs H Q ∨ rIsiT K xs H Q
theorem call_isi' : CallR X (.builtin "isinstance") (rIsi2 X.K) := fun pins s σ H vs us Q I r h => h.elim (fun z => call_isi pins s σ H vs us Q I r z) (fun z => call_isiT pins s σ H vs us Q I r z)
end

/-! ### parts of readings by name -/
def zB (x : V) (H : Hp) (Q : Bool → Hp → Prop) : Prop := ∃ k, x = .bl k ∧ Q k H
def zTup (xs : List V) (H : Hp) (Q : VK) : Prop := xs.length ≤ sizeLine ∧ ∀ p, H p = none → Q (.ref p) (upd H p (.tup xs))
def zLst (xs : List V) (H : Hp) (Q : VK) : Prop := xs.length ≤ sizeLine ∧ ∀ p, H p = none → Q (.ref p) (upd H p (.lst xs))
def zIf (k : Bool) (A B : Prop) : Prop := if k = true then A else B
def zDGet (x y : V) (H : Hp) (Q : VK) : Prop := ∃ a v, x = .ref a ∧ DGet H a y (some v) ∧ Q v H
def zDIn (y x : V) (H : Hp) (Q : VK) : Prop := ∃ a o, x = .ref a ∧ DGet H a y o ∧ Q (.bl o.isSome) H
def zDNotIn (y x : V) (H : Hp) (Q : VK) : Prop := ∃ a o, x = .ref a ∧ DGet H a y o ∧ Q (.bl (!o.isSome)) H
def zDPut (x y v : V) (H : Hp) (N : Hp → Prop) : Prop := ∃ a H4, x = .ref a ∧ DPut H a y v H4 ∧ N H4
def zFld (K : PySem.W.Frag) (x : V) (f : Str) (H : Hp) (Q : VK) : Prop := ∃ a C dx fs v, x = .ref a ∧ H a = some (.ins C dx fs) ∧ Cls K C ∧ NoAttr K C f ∧ fs.lookup f = some v ∧ Q v H
def zTy (K : PySem.W.Frag) (T : String) (x : V) (H : Hp) (N : Prop) : Prop := tyV K T x H ∧ N
def zGTup (K : PySem.W.Frag) (n : Nat) (t : TGs) (v : V) (σ : L2.St) (H : Hp) (Q : L2.St → Hp → Prop) : Prop := ∃ a xs, v = .ref a ∧ (SqT K H a xs ∨ SqL K H a xs) ∧ xs.length = n ∧ t xs σ H Q

section
variable {K : PySem.W.Frag} {σ : L2.St} {H : Hp} {Q : VK} {QB : Bool → Hp → Prop} {QA : List V → Hp → Prop} {N b c : L2.St → Hp → Prop} {r : VK} {ta tb tc te : TE} {t u : TT} {tt tu : TS} {tA : TA} {g : TG} {v w x y : V} {i j : Int} {n : Nat} {p q a : Addr} {xs ys : List V} {rr rr' : R2} {k : Bool} {A B : Prop}

/-! ### statements -/
theorem s_seq (h : tt ⟨tu ⟨N, r, b, c⟩, r, b, c⟩ σ H) : tSeq tt tu ⟨N, r, b, c⟩ σ H := h
theorem s_cut (Mid : L2.St → Hp → Prop) (h1 : tt ⟨Mid, r, b, c⟩ σ H) (h2 : ∀ σ' H', Mid σ' H' → tu ⟨N, r, b, c⟩ σ' H') : C8.tCut tt tu ⟨N, r, b, c⟩ σ H := ⟨Mid, h1, h2⟩
theorem s_next (h : N σ H) : tNext ⟨N, r, b, c⟩ σ H := h
theorem s_break (h : b σ H) : tBreak ⟨N, r, b, c⟩ σ H := h
theorem s_cont (h : c σ H) : tCont ⟨N, r, b, c⟩ σ H := h
theorem s_ret (h : te σ H r) : tRet te ⟨N, r, b, c⟩ σ H := h
theorem s_retN (h : r .non H) : tRetN ⟨N, r, b, c⟩ σ H := h
theorem s_drop (h : te σ H fun _ H1 => N σ H1) : tDrop te ⟨N, r, b, c⟩ σ H := h
theorem s_set (h : te σ H fun v H1 => N (σ.set n (some v)) H1) : tAsg te (gName n) ⟨N, r, b, c⟩ σ H := h
theorem s_asg (h : te σ H fun v H1 => g v σ H1 N) : tAsg te g ⟨N, r, b, c⟩ σ H := h
theorem s_if (h : t σ H fun k H1 => zIf k (tt ⟨N, r, b, c⟩ σ H1) (tu ⟨N, r, b, c⟩ σ H1)) : tIfS t tt tu ⟨N, r, b, c⟩ σ H := h
theorem s_dput {td ty tv : TE} (h : tv σ H fun v H1 => td σ H1 fun x H2 => ty σ H2 fun y H3 => zDPut x y v H3 fun H4 => N σ H4) : sDPut td ty tv ⟨N, r, b, c⟩ σ H := h
/-! ### targets -/
theorem s_gname {NN : L2.St → Hp → Prop} (h : NN (σ.set n (some v)) H) : gName n v σ H NN := h
theorem s_gsub {to ti : TE} {ts : TSet} {NN : L2.St → Hp → Prop} (h : to σ H fun o H1 => ti σ H1 fun i H2 => ts o i v H2 fun H3 => NN σ H3) : gSub to ti ts v σ H NN := h
theorem s_gtup {tg : TGs} {NN : L2.St → Hp → Prop} (hs : SqT K H a xs) (hl : xs.length = n) (h : tg xs σ H NN) : gTup K n tg (.ref a) σ H NN := ⟨a, xs, rfl, hs, hl, h⟩
theorem s_gnil {NN : L2.St → Hp → Prop} (h : NN σ H) : gNil [] σ H NN := ⟨rfl, h⟩
theorem s_gcons {t1 : TG} {t2 : TGs} {NN : L2.St → Hp → Prop} (h : t1 v σ H fun σ' H' => t2 xs σ' H' NN) : gCons t1 t2 (v :: xs) σ H NN := ⟨v, xs, rfl, h⟩
/-! ### expressions -/
theorem s_var (h : σ[n]? = some (some v)) (q : Q v H) : tVar n σ H Q := ⟨v, h, q⟩
theorem s_c (q : Q v H) : tC v σ H Q := q
theorem s_op (h : ta σ H fun x H1 => tb σ H1 fun y H2 => rr x y H2 Q) : tOp rr ta tb σ H Q := h
theorem s_un {ru : V → Hp → VK → Prop} (h : ta σ H fun x H1 => ru x H1 Q) : tUn ru ta σ H Q := h
theorem s_cb {rc : List V → Hp → VK → Prop} (h : tA σ H fun vs H1 => rc vs H1 Q) : tCB rc tA σ H Q := h
theorem s_nil (h : QA [] H) : tNil σ H QA := h
theorem s_cons {tr : TA} (h : ta σ H fun x H1 => tr σ H1 fun xs H2 => QA (x :: xs) H2) : tCons ta tr σ H QA := h
theorem s_call {sp : Sp} {E : XK} (h : tA σ H fun vs H1 => sp vs H1 Q E) : tCall sp [] E tA σ H Q := by
  show tA σ H fun vs H1 => sp (vs ++ []) H1 Q E
  simp only [List.append_nil]
  exact h
theorem s_tup (h : tA σ H fun xs H1 => zTup xs H1 Q) : tTup tA σ H Q := h
theorem s_lst (h : tA σ H fun xs H1 => zLst xs H1 Q) : tLst tA σ H Q := h
theorem s_ztup (h : Nat.ble xs.length sizeLine = true) (h2 : ∀ p, H p = none → Q (.ref p) (upd H p (.tup xs))) : zTup xs H Q := ⟨Nat.le_of_ble_eq_true h, h2⟩
theorem s_zlst (h : Nat.ble xs.length sizeLine = true) (h2 : ∀ p, H p = none → Q (.ref p) (upd H p (.lst xs))) : zLst xs H Q := ⟨Nat.le_of_ble_eq_true h, h2⟩
theorem s_test (h : te σ H fun x H1 => zB x H1 QB) : tTest te σ H QB := h
theorem s_B (h : te σ H fun x H1 => zB x H1 QB) : tB te σ H QB := h
theorem s_zB (h : QB k H) : zB (.bl k) H QB := ⟨k, rfl, h⟩
theorem s_and (h : t σ H fun k H1 => zIf k (u σ H1 QB) (QB false H1)) : tAnd t u σ H QB := h
theorem s_or (h : t σ H fun k H1 => zIf k (QB true H1) (u σ H1 QB)) : tOr t u σ H QB := h
theorem s_not (h : t σ H fun k H1 => QB (!k) H1) : tNot t σ H QB := h
theorem s_chain (h : ta σ H fun x H1 => tb σ H1 fun y H2 => rr x y H2 fun z H3 => zB z H3 fun k H3 => zIf k (tc σ H3 fun w H4 => rr' y w H4 Q) (Q (.bl false) H3)) : tChain rr rr' ta tb tc σ H Q := h
theorem s_ifE (h : t σ H fun k H1 => zIf k (ta σ H1 Q) (tb σ H1 Q)) : tIf t ta tb σ H Q := h
theorem s_bm {T : String} {rm : V → List V → Hp → VK → Prop} (h : ta σ H fun x H1 => zTy K T x H1 (tA σ H1 fun xs H2 => rm x xs H2 Q)) : tBM K T rm ta tA σ H Q := h
theorem s_bm0 {T : String} {rm : V → List V → Hp → VK → Prop} (h : ta σ H fun x H1 => zTy K T x H1 (rm x [] H1 Q)) : tBM0 K T rm ta σ H Q := h
theorem s_fld {f : Str} (h : ta σ H fun x H1 => zFld K x f H1 Q) : tFld K ta f σ H Q := h
theorem s_dget {td ty : TE} (h : td σ H fun x H1 => ty σ H1 fun y H2 => zDGet x y H2 Q) : tDGet td ty σ H Q := h
theorem s_din {td ty : TE} (h : ty σ H fun y H1 => td σ H1 fun x H2 => zDIn y x H2 Q) : tDIn ty td σ H Q := h
theorem s_dnotin {td ty : TE} (h : ty σ H fun y H1 => td σ H1 fun x H2 => zDNotIn y x H2 Q) : tDNotIn ty td σ H Q := h
theorem s_dnew (h : ∀ p, H p = none → Q (.ref p) (upd H p (.dK []))) : tDNewK σ H Q := h
theorem s_disp {trs : List (TE × TE)} (h : ∀ p, H p = none → tPairs trs σ (upd H p (.dK [])) fun ps H2 => H2 p = some (.dK []) ∧ ∃ kvs : List (Key × V), ps = kvs.map (fun kv => (kV kv.1, kv.2)) ∧ kvs.length ≤ 15 ∧ Q (.ref p) (upd H2 p (.dK (mergeK [] kvs)))) : tDisp trs σ H Q := h
theorem s_pnil {QP : List (V × V) → Hp → Prop} (h : QP [] H) : tPairs [] σ H QP := h
theorem s_pcons {tk tv : TE} {trs : List (TE × TE)} {QP : List (V × V) → Hp → Prop} (h : tk σ H fun x H1 => tv σ H1 fun y H2 => tPairs trs σ H2 fun ps H3 => QP ((x, y) :: ps) H3) : tPairs ((tk, tv) :: trs) σ H QP := h
theorem s_andV (h : ta σ H fun x H1 => zB x H1 fun k H1 => zIf k (tb σ H1 Q) (Q (.bl false) H1)) : tAndV ta tb σ H Q := h
theorem s_orV (h : ta σ H fun x H1 => zB x H1 fun k H1 => zIf k (Q (.bl true) H1) (tb σ H1 Q)) : tOrV ta tb σ H Q := h
theorem s_notV (h : ta σ H fun x H1 => zB x H1 fun k H1 => Q (.bl (!k)) H1) : tNotV ta σ H Q := h
/-! ### by values -/
theorem s_rI0 {gg : Int → Int → V} (h : Q (gg i j) H) : rI0 gg (.int i) (.int j) H Q := ⟨i, j, rfl, rfl, h⟩
theorem s_rU {gg : Int → V} (h : Q (gg i) H) : rU gg (.int i) H Q := ⟨i, rfl, h⟩
theorem s_fdv (h0 : j ≠ 0 ∧ j.natAbs.log2 < 9000) (h : Q (.int (i.fdiv j)) H) : rFdv (.int i) (.int j) H Q := ⟨i, j, rfl, rfl, h0, h⟩
theorem s_mod (h0 : j ≠ 0) (h : Q (.int (i.fmod j)) H) : rMod (.int i) (.int j) H Q := ⟨i, j, rfl, rfl, h0, h⟩
theorem s_fdvp (h0 : 0 < j ∧ j < 2 ^ 64) (h : Q (.int (i / j)) H) : rFdv (.int i) (.int j) H Q := ⟨i, j, rfl, rfl, ⟨by omega, Nat.lt_of_lt_of_le (PySem.Flt.log2_lt_of (k := 64) (by decide) (by omega)) (by decide)⟩, by
  show Q (.int (i.fdiv j)) H
  rw [Int.fdiv_eq_ediv_of_nonneg i (by omega)]; exact h⟩
theorem s_modp (h0 : 0 < j) (h : Q (.int (i % j)) H) : rMod (.int i) (.int j) H Q := ⟨i, j, rfl, rfl, by omega, by
  show Q (.int (i.fmod j)) H
  rw [Int.fmod_eq_emod_of_nonneg i (by omega)]; exact h⟩
theorem s_mulp (h0 : (-18446744073709551616 < i ∧ i < 18446744073709551616) ∨ (-18446744073709551616 < j ∧ j < 18446744073709551616)) (h : Q (.int (i * j)) H) : rMul (.int i) (.int j) H Q := ⟨i, j, rfl, rfl, .inl h0, h⟩
theorem s_mul (h0 : CMul i j ∨ CMulW i j) (h : Q (.int (i * j)) H) : rMul (.int i) (.int j) H Q := ⟨i, j, rfl, rfl, h0, h⟩
theorem s_add_i (h : Q (.int (i + j)) H) : rAddU K (.int i) (.int j) H Q := .inl ⟨i, j, rfl, rfl, h⟩
theorem s_add_s {z w : Str} (h0 : z.length + w.length ≤ sizeLine) (h : Q (.str (z ++ w)) H) : rAddU K (.str z) (.str w) H Q := .inr (.inl ⟨z, w, rfl, rfl, h0, h⟩)
theorem s_add_l (h1 : H p = some (.lst xs)) (h2 : H q = some (.lst ys)) (h0 : xs.length + ys.length ≤ sizeLine) (h : ∀ a, H a = none → Q (.ref a) (upd H a (.lst (xs ++ ys)))) : rAddU K (.ref p) (.ref q) H Q := .inr (.inr (.inl ⟨p, q, xs, ys, rfl, rfl, h1, h2, h0, h⟩))
theorem s_add_t (h1 : SqT K H p xs) (h2 : SqT K H q ys) (hx : xs ≠ []) (hy : ys ≠ []) (h0 : xs.length + ys.length ≤ sizeLine) (h : ∀ a, H a = none → Q (.ref a) (upd H a (.tup (xs ++ ys)))) : rAddU K (.ref p) (.ref q) H Q := .inr (.inr (.inr ⟨p, q, xs, ys, rfl, rfl, h1, h2, hx, h0, fun e => absurd e hy, fun _ => h⟩))
theorem s_eq_i (h : Q (.bl (decide (i = j))) H) : rEqU K (.int i) (.int j) H Q := .inl ⟨rfl, by rw [show decide (V.int i = V.int j) = decide (i = j) by simp]; exact h⟩
theorem s_ne_i (h : Q (.bl (!decide (i = j))) H) : rNeU K (.int i) (.int j) H Q := .inl ⟨rfl, by rw [show decide (V.int i = V.int j) = decide (i = j) by simp]; exact h⟩
theorem s_eq_s {z w : Str} (h : Q (.bl (decide (z = w))) H) : rEqU K (.str z) (.str w) H Q := .inl ⟨rfl, by rw [show decide (V.str z = V.str w) = decide (z = w) by simp]; exact h⟩
theorem s_ne_s {z w : Str} (h : Q (.bl (!decide (z = w))) H) : rNeU K (.str z) (.str w) H Q := .inl ⟨rfl, by rw [show decide (V.str z = V.str w) = decide (z = w) by simp]; exact h⟩
theorem s_eq_v (h0 : scal x y = true) (h : Q (.bl (decide (x = y))) H) : rEqU K x y H Q := .inl ⟨h0, h⟩
theorem s_ne_v (h0 : scal x y = true) (h : Q (.bl (!decide (x = y))) H) : rNeU K x y H Q := .inl ⟨h0, h⟩
theorem s_eq_d {d e : PyData} (h1 : Dp K H x d) (h2 : Dp K H y e) (h3 : SeqAt.shaped d = true) (h4 : SeqAt.shaped e = true) (h : Q (.bl (PyData.eqv d e)) H) : rEqU K x y H Q := .inr ⟨d, e, h1, h2, h3, h4, h⟩
theorem s_ne_d {d e : PyData} (h1 : Dp K H x d) (h2 : Dp K H y e) (h3 : SeqAt.shaped d = true) (h4 : SeqAt.shaped e = true) (h : Q (.bl (!PyData.eqv d e)) H) : rNeU K x y H Q := .inr ⟨d, e, h1, h2, h3, h4, h⟩
theorem s_ix_l (h1 : SqL K H p xs) (h2 : atI xs i = some v) (h : Q v H) : rIx K (.ref p) (.int i) H Q := .inl ⟨p, xs, i, v, rfl, rfl, h1, h2, h⟩
theorem s_ix_t (h1 : SqT K H p xs) (h2 : atI xs i = some v) (h : Q v H) : rIx K (.ref p) (.int i) H Q := .inr (.inl ⟨p, xs, i, v, rfl, rfl, h1, h2, h⟩)
theorem s_ix_s {z : Str} {cc : Nat} (h1 : z.length ≤ sizeLine) (h2 : atI z.cps.toList i = some cc) (h : Q (.str ⟨#[cc]⟩) H) : rIx K (.str z) (.int i) H Q := .inr (.inr ⟨z, i, cc, rfl, rfl, h1, h2, h⟩)
theorem s_setL {N1 : Hp → Prop} (h1 : H p = some (.lst xs)) (h2 : ixN xs.length i = some n) (h : N1 (upd H p (.lst (xs.set n v)))) : rSetL (.ref p) (.int i) v H N1 := ⟨p, xs, i, n, rfl, rfl, h1, h2, h⟩
theorem s_len_l (h1 : SqL K H p xs) (h : Q (.int xs.length) H) : rLen K [.ref p] H Q := ⟨_, xs.length, rfl, .inl ⟨xs, h1, rfl⟩, h⟩
theorem s_len_t (h1 : SqT K H p xs) (h : Q (.int xs.length) H) : rLen K [.ref p] H Q := ⟨_, xs.length, rfl, .inr ⟨xs, h1, rfl⟩, h⟩
theorem s_len_s {z : Str} (h1 : z.length ≤ sizeLine) (h : Q (.int z.length) H) : rLen K [.str z] H Q := ⟨_, z.length, rfl, ⟨h1, rfl⟩, h⟩
theorem s_min2 (h : Q (.int (if j < i then j else i)) H) : rMin2 [.int i, .int j] H Q := ⟨i, j, rfl, h⟩
theorem s_max2 (h : Q (.int (if j > i then j else i)) H) : rMax2 [.int i, .int j] H Q := ⟨i, j, rfl, h⟩
theorem s_listof_l (h1 : SqL K H p xs) (h : ∀ l, H l = none → Q (.ref l) (upd H l (.lst xs))) : rListOf K [.ref p] H Q := ⟨p, xs, rfl, .inl h1, h⟩
theorem s_listof_t (h1 : SqT K H p xs) (h : ∀ l, H l = none → Q (.ref l) (upd H l (.lst xs))) : rListOf K [.ref p] H Q := ⟨p, xs, rfl, .inr h1, h⟩
theorem s_tupof_l (h1 : SqL K H p xs) (h : ∀ l, H l = none → Q (.ref l) (upd H l (.tup xs))) : rTupOf K [.ref p] H Q := ⟨p, xs, rfl, .inl ⟨h1, h⟩⟩
theorem s_tupof_t (h1 : SqT K H p xs) (h : Q (.ref p) H) : rTupOf K [.ref p] H Q := ⟨p, xs, rfl, .inr ⟨h1, h⟩⟩
theorem s_int1 (h : Q (.int i) H) : rInt1 [.int i] H Q := .inl ⟨i, rfl, h⟩
theorem s_int1b (h : Q (.int (if k then 1 else 0)) H) : rInt1 [.bl k] H Q := .inr ⟨k, rfl, h⟩
theorem s_abs (h : Q (.int (if i < 0 then -i else i)) H) : rAbs [.int i] H Q := ⟨i, rfl, h⟩
theorem s_strI (h0 : i.natAbs.log2 < 1920) (h : Q (.str (toString i)) H) : rStrI [.int i] H Q := ⟨i, rfl, h0, h⟩
theorem s_isi {cc : V} {ty uu : Value} {bb : Bool} (h1 : ClsV cc uu) (h2 : TyX K H x ty) (h3 : PySem.W.kitOne K ty uu = some bb) (h : Q (.bl bb) H) : rIsi2 K [x, cc] H Q := .inl ⟨x, cc, ty, uu, bb, rfl, h1, h2, h3, h⟩
theorem s_isN (h : Q (.bl (decide (x = .non))) H) : rIsNz x .non H Q := ⟨rfl, h⟩
theorem s_notN (h : Q (.bl (!decide (x = .non))) H) : rNotNz x .non H Q := ⟨rfl, h⟩
theorem s_gun_t {tg : TGs} {NN : L2.St → Hp → Prop} (hs : SqT K H a xs) (hl : xs.length = n) (h : tg xs σ H NN) : gUn K n tg (.ref a) σ H NN := .inl ⟨a, xs, rfl, hs, hl, h⟩
theorem s_gun_l {tg : TGs} {NN : L2.St → Hp → Prop} (hs : SqL K H a xs) (hl : xs.length = n) (h : tg xs σ H NN) : gUn K n tg (.ref a) σ H NN := .inr ⟨a, xs, rfl, hs, hl, h⟩
theorem s_p18 (h : Q (.int 1000000000000000000) H) : rI CPow (fun i j => .int (i ^ j.toNat)) (.int 10) (.int 18) H Q := ⟨10, 18, rfl, rfl, by unfold CPow; decide, h⟩
theorem s_callS {W : WX} {sp : Sp} (h : tA σ H fun vs H1 => sp vs H1 Q (WE W σ)) : tCallS sp (WE W) tA σ H Q := h
theorem s_in_l (h1 : SqL K H p xs) (h2 : flatV x = true) (h3 : xs.all flatV = true) (h : Q (.bl (inV x xs)) H) : rIn K false x (.ref p) H Q := ⟨p, xs, rfl, .inl h1, h2, h3, h⟩
theorem s_in_t (h1 : SqT K H p xs) (h2 : flatV x = true) (h3 : xs.all flatV = true) (h : Q (.bl (inV x xs)) H) : rIn K false x (.ref p) H Q := ⟨p, xs, rfl, .inr h1, h2, h3, h⟩
theorem s_nin_l (h1 : SqL K H p xs) (h2 : flatV x = true) (h3 : xs.all flatV = true) (h : Q (.bl (!inV x xs)) H) : rIn K true x (.ref p) H Q := ⟨p, xs, rfl, .inl h1, h2, h3, h⟩
theorem s_nin_t (h1 : SqT K H p xs) (h2 : flatV x = true) (h3 : xs.all flatV = true) (h : Q (.bl (!inV x xs)) H) : rIn K true x (.ref p) H Q := ⟨p, xs, rfl, .inr h1, h2, h3, h⟩
theorem s_append (h1 : H p = some (.lst xs)) (h2 : xs.length < sizeLine) (h : Q .non (upd H p (.lst (xs ++ [v])))) : rAppend (.ref p) [v] H Q := ⟨p, xs, v, rfl, rfl, h1, h2, h⟩
theorem s_zTyL {N0 : Prop} (h1 : H p = some (.lst xs)) (h : N0) : zTy K "list" (.ref p) H N0 := ⟨.inl ⟨rfl, xs, .inl (.inl h1)⟩, h⟩
theorem s_zDGet_s {z : Str} {kvs : List (Key × V)} (h1 : Rd H p (.dK kvs)) (h2 : valV kvs (Sum.inr z : Key) = some v) (h : Q v H) : zDGet (.ref p) (.str z) H Q := ⟨p, v, rfl, .inl ⟨kvs, Sum.inr z, h1, rfl, h2.symm⟩, h⟩
theorem s_zDGet_i {kvs : List (Key × V)} (h1 : Rd H p (.dK kvs)) (h2 : valV kvs (Sum.inl i : Key) = some v) (h : Q v H) : zDGet (.ref p) (.int i) H Q := ⟨p, v, rfl, .inl ⟨kvs, Sum.inl i, h1, rfl, h2.symm⟩, h⟩
theorem s_zDIn_s {z : Str} {kvs : List (Key × V)} (h1 : Rd H p (.dK kvs)) (h : Q (.bl (valV kvs (Sum.inr z : Key)).isSome) H) : zDIn (.str z) (.ref p) H Q := ⟨p, _, rfl, .inl ⟨kvs, Sum.inr z, h1, rfl, rfl⟩, h⟩
theorem s_zDIn_i {kvs : List (Key × V)} (h1 : Rd H p (.dK kvs)) (h : Q (.bl (valV kvs (Sum.inl i : Key)).isSome) H) : zDIn (.int i) (.ref p) H Q := ⟨p, _, rfl, .inl ⟨kvs, Sum.inl i, h1, rfl, rfl⟩, h⟩
theorem s_zDNotIn_s {z : Str} {kvs : List (Key × V)} (h1 : Rd H p (.dK kvs)) (h : Q (.bl (!(valV kvs (Sum.inr z : Key)).isSome)) H) : zDNotIn (.str z) (.ref p) H Q := ⟨p, _, rfl, .inl ⟨kvs, Sum.inr z, h1, rfl, rfl⟩, h⟩
theorem s_zDNotIn_i {kvs : List (Key × V)} (h1 : Rd H p (.dK kvs)) (h : Q (.bl (!(valV kvs (Sum.inl i : Key)).isSome)) H) : zDNotIn (.int i) (.ref p) H Q := ⟨p, _, rfl, .inl ⟨kvs, Sum.inl i, h1, rfl, rfl⟩, h⟩
theorem s_zDPut_s {z : Str} {kvs : List (Key × V)} {N1 : Hp → Prop} (h1 : H p = some (.dK kvs)) (h2 : kvs.length < sizeLine) (h : N1 (upd H p (.dK (putK kvs (Sum.inr z : Key) v)))) : zDPut (.ref p) (.str z) v H N1 := ⟨p, _, rfl, .inl ⟨kvs, Sum.inr z, h1, rfl, h2, rfl⟩, h⟩
theorem s_zDPut_i {kvs : List (Key × V)} {N1 : Hp → Prop} (h1 : H p = some (.dK kvs)) (h2 : kvs.length < sizeLine) (h : N1 (upd H p (.dK (putK kvs (Sum.inl i : Key) v)))) : zDPut (.ref p) (.int i) v H N1 := ⟨p, _, rfl, .inl ⟨kvs, Sum.inl i, h1, rfl, h2, rfl⟩, h⟩
theorem s_zFld {C dx : Addr} {fs : List (Str × V)} {f : Str} (h1 : H p = some (.ins C dx fs)) (hc : Cls K C) (hn : NoAttr K C f) (hl : fs.lookup f = some v) (h : Q v H) : zFld K (.ref p) f H Q := ⟨p, C, dx, fs, v, rfl, h1, hc, hn, hl, h⟩
/-! ### ways -/
theorem s_ift (h : A) : zIf true A B := by unfold zIf; rw [if_pos rfl]; exact h
theorem s_iff (h : B) : zIf false A B := by unfold zIf; rw [if_neg Bool.false_ne_true]; exact h
theorem s_ifnn {D : Prop} [Decidable D] (h1 : ¬ D → A) (h2 : D → B) : zIf (!decide D) A B := by
  by_cases h : D
  · rw [decide_eq_true h]; exact s_iff (h2 h)
  · rw [decide_eq_false h]; exact s_ift (h1 h)
theorem s_nt (h : B) : zIf (!true) A B := s_iff h
theorem s_nf (h : A) : zIf (!false) A B := s_ift h
theorem s_ifd {D : Prop} [Decidable D] (h1 : D → A) (h2 : ¬ D → B) : zIf (decide D) A B := by
  by_cases h : D
  · rw [decide_eq_true h]; exact s_ift (h1 h)
  · rw [decide_eq_false h]; exact s_iff (h2 h)
theorem s_ifn {D : Prop} [Decidable D] (h1 : ¬ D → A) (h2 : D → B) : zIf (!decide D) A B := by
  by_cases h : D
  · rw [decide_eq_true h]; exact s_iff (h2 h)
  · rw [decide_eq_false h]; exact s_ift (h1 h)
theorem s_ifdt {D : Prop} [Decidable D] (h : D) (h1 : A) : zIf (decide D) A B := by rw [decide_eq_true h]; exact s_ift h1
theorem s_ifdf {D : Prop} [Decidable D] (h : ¬ D) (h1 : B) : zIf (decide D) A B := by rw [decide_eq_false h]; exact s_iff h1
theorem s_ifk (h1 : k = true → A) (h2 : k = false → B) : zIf k A B := by
  cases k with
  | true => exact s_ift (h1 rfl)
  | false => exact s_iff (h2 rfl)
theorem s_ifkt (h : k = true) (h1 : A) : zIf k A B := by subst h; exact s_ift h1
theorem s_ifkf (h : k = false) (h1 : B) : zIf k A B := by subst h; exact s_iff h1
/-! ### loops -/
/-- a loop whose iterator stands -/
def zLoop (J : It) (g : TG) (tb : TS) (D : Ends) (σ : L2.St) (H1 : Hp) : Prop := ∃ W : Nat → Nat → L2.St → Hp → Prop, (∃ m, W 0 m σ H1) ∧ ∀ i m σ H, W i m σ H →
  (J.stop i H ∧ D.nx σ H) ∨ (J.go i H ∧ ∃ N : L2.St → Hp → Prop, (∀ σ' H', N σ' H' → ∃ m', m' < m ∧ W (i + 1) m' σ' H') ∧ ∀ x H', J.yld i H x H' → g x σ H' fun σ2 H2 => tb { D with nx := N, ct := N, bk := D.nx } σ2 H2)
def zRng1 (vs : List V) (H : Hp) (R : It → Hp → Prop) : Prop := ∃ j : Int, vs = [.int j] ∧ -(2 ^ 62) ≤ j ∧ j < 2 ^ 62 ∧ R (Itr 0 j.toNat) H
def zRng2 (vs : List V) (H : Hp) (R : It → Hp → Prop) : Prop := ∃ i j : Int, vs = [.int i, .int j] ∧ (-(2 ^ 62) ≤ i ∧ i < 2 ^ 62 ∧ -(2 ^ 62) ≤ j ∧ j < 2 ^ 62) ∧ R (Itr i (j - i).toNat) H
def zItL (K : PySem.W.Frag) (x : V) (H : Hp) (R : It → Hp → Prop) : Prop := ∃ a, x = .ref a ∧ (∃ xs, SqL K H a xs) ∧ R (Itl K a) H
def zItT (K : PySem.W.Frag) (x : V) (H : Hp) (R : It → Hp → Prop) : Prop := ∃ a, x = .ref a ∧ (∃ xs, SqT K H a xs) ∧ R (Itt K a) H
/-- a comprehension whose iterator stands -/
def zLc (J : It) (g : TG) (t : TT) (te : TE) (vs : List Nat) (σ : L2.St) (H1 : Hp) (Q : VK) : Prop := ∀ D, H1 D = none → ∃ W : Nat → Nat → Hp → Prop, (∃ m, W 0 m (upd H1 D (.lst []))) ∧ ∀ i m H, W i m H →
  (J.stop i H ∧ Q (.ref D) H) ∨ (J.go i H ∧ ∃ Nx : Hp → Prop, (∀ H', Nx H' → ∃ m', m' < m ∧ W (i + 1) m' H') ∧ ∀ x H', J.yld i H x H' → g x (wipe σ vs) H' fun σ2 H2 => wipe σ2 vs = wipe σ vs ∧ t σ2 H2 fun b H3 =>
    if b = true then te σ2 H3 fun y H4 => ∃ acc, H4 D = some (.lst acc) ∧ acc.length < sizeLine ∧ Nx (upd H4 D (.lst (acc ++ [y]))) else Nx H3)
def zWipe (vs : List Nat) (σ σ2 : L2.St) (A : Prop) : Prop := wipe σ2 vs = wipe σ vs ∧ A
def zAcc (D : Addr) (y : V) (H : Hp) (P : Hp → Prop) : Prop := ∃ acc, H D = some (.lst acc) ∧ acc.length < sizeLine ∧ P (upd H D (.lst (acc ++ [y])))
theorem s_lc {wi : TI} {vs : List Nat} (h : wi σ H fun J H1 => zLc J g t te vs σ H1 Q) : tLc wi g t te vs σ H Q := h
theorem s_yes (h : QB true H) : tYes σ H QB := h
theorem s_wipe {vs : List Nat} {σ2 : L2.St} (h : wipe σ2 vs = wipe σ vs) (h1 : A) : zWipe vs σ σ2 A := ⟨h, h1⟩
theorem s_acc {D : Addr} {acc : List V} {P : Hp → Prop} (h1 : H D = some (.lst acc)) (h2 : acc.length < sizeLine) (h : P (upd H D (.lst (acc ++ [y])))) : zAcc D y H P := ⟨acc, h1, h2, h⟩
theorem lc_rng {lo : Int} {vs : List Nat} (Pv : Addr → Nat → Hp → Prop) (h0 : ∀ D, H D = none → Pv D 0 (upd H D (.lst [])))
    (hs : ∀ D i H', H D = none → i < n → Pv D i H' → g (.int (lo + (i : Int))) (wipe σ vs) H' fun σ2 H2 => zWipe vs σ σ2 (t σ2 H2 fun k H3 => zIf k (te σ2 H3 fun y H4 => zAcc D y H4 (Pv D (i + 1))) (Pv D (i + 1) H3)))
    (hd : ∀ D H', H D = none → Pv D n H' → Q (.ref D) H') : zLc (Itr lo n) g t te vs σ H Q := fun D hD =>
  lc_range (Pv D) (h0 D hD) (fun i H' hi hp => hs D i H' hD hi hp) (fun H' hp => hd D H' hD hp)
theorem lc_lst {vs : List Nat} (xs : List V) (Pv : Addr → Nat → Hp → Prop) (h0 : ∀ D, H D = none → Pv D 0 (upd H D (.lst []))) (hl : ∀ D i H', H D = none → i ≤ xs.length → Pv D i H' → SqL K H' p xs)
    (hs : ∀ D i x H', H D = none → xs[i]? = some x → Pv D i H' → g x (wipe σ vs) H' fun σ2 H2 => zWipe vs σ σ2 (t σ2 H2 fun k H3 => zIf k (te σ2 H3 fun y H4 => zAcc D y H4 (Pv D (i + 1))) (Pv D (i + 1) H3)))
    (hd : ∀ D H', H D = none → Pv D xs.length H' → Q (.ref D) H') : zLc (Itl K p) g t te vs σ H Q := fun D hD =>
  lc_list (xs := xs) (Pv D) (h0 D hD) (fun i H' hi hp => hl D i H' hD hi hp) (fun i x H' hx hp => hs D i x H' hD hx hp) (fun H' hp => hd D H' hD hp)
theorem s_for {wi : TI} {tb1 : TS} (h : wi σ H fun J H1 => zLoop J g tb1 ⟨N, r, b, c⟩ σ H1) : tFor wi g tb1 ⟨N, r, b, c⟩ σ H := h
theorem s_rng1 {R : It → Hp → Prop} (h : tA σ H fun vs H1 => zRng1 vs H1 R) : iRng1 tA σ H R := h
theorem s_rng2 {R : It → Hp → Prop} (h : tA σ H fun vs H1 => zRng2 vs H1 R) : iRng2 tA σ H R := h
theorem s_itl {R : It → Hp → Prop} (h : te σ H fun x H1 => zItL K x H1 R) : iList K te σ H R := h
theorem s_itt {R : It → Hp → Prop} (h : te σ H fun x H1 => zItT K x H1 R) : iTup K te σ H R := h
theorem s_zrng1 {R : It → Hp → Prop} (h1 : -(2 ^ 62) ≤ j ∧ j < 2 ^ 62) (h : R (Itr 0 j.toNat) H) : zRng1 [.int j] H R := ⟨j, rfl, h1.1, h1.2, h⟩
theorem s_zrng2 {R : It → Hp → Prop} (h1 : -(2 ^ 62) ≤ i ∧ i < 2 ^ 62 ∧ -(2 ^ 62) ≤ j ∧ j < 2 ^ 62) (h : R (Itr i (j - i).toNat) H) : zRng2 [.int i, .int j] H R := ⟨i, j, rfl, h1, h⟩
theorem s_zitl {R : It → Hp → Prop} (h1 : SqL K H p xs) (h : R (Itl K p) H) : zItL K (.ref p) H R := ⟨p, rfl, ⟨xs, h1⟩, h⟩
theorem s_zitt {R : It → Hp → Prop} (h1 : SqT K H p xs) (h : R (Itt K p) H) : zItT K (.ref p) H R := ⟨p, rfl, ⟨xs, h1⟩, h⟩
theorem loop_range {tb1 : TS} {lo : Int} (Pv : Nat → L2.St → Hp → Prop) (h0 : Pv 0 σ H) (hs : ∀ i σ' H', i < n → Pv i σ' H' → g (.int (lo + (i : Int))) σ' H' fun σ2 H2 => tb1 ⟨Pv (i + 1), r, N, Pv (i + 1)⟩ σ2 H2)
    (hd : ∀ σ' H', Pv n σ' H' → N σ' H') : zLoop (Itr lo n) g tb1 ⟨N, r, b, c⟩ σ H := for_range (D := ⟨N, r, b, c⟩) Pv h0 hs hd
theorem loop_list {tb1 : TS} (xs : List V) (Pv : Nat → L2.St → Hp → Prop) (h0 : Pv 0 σ H) (hl : ∀ i σ' H', i ≤ xs.length → Pv i σ' H' → SqL K H' p xs)
    (hs : ∀ i x σ' H', xs[i]? = some x → Pv i σ' H' → g x σ' H' fun σ2 H2 => tb1 ⟨Pv (i + 1), r, N, Pv (i + 1)⟩ σ2 H2) (hd : ∀ σ' H', Pv xs.length σ' H' → N σ' H') : zLoop (Itl K p) g tb1 ⟨N, r, b, c⟩ σ H :=
  for_list (D := ⟨N, r, b, c⟩) (xs := xs) Pv h0 hl hs hd
theorem loop_tup {tb1 : TS} (xs : List V) (Pv : Nat → L2.St → Hp → Prop) (h0 : Pv 0 σ H) (hl : ∀ i σ' H', i ≤ xs.length → Pv i σ' H' → SqT K H' p xs)
    (hs : ∀ i x σ' H', xs[i]? = some x → Pv i σ' H' → g x σ' H' fun σ2 H2 => tb1 ⟨Pv (i + 1), r, N, Pv (i + 1)⟩ σ2 H2) (hd : ∀ σ' H', Pv xs.length σ' H' → N σ' H') : zLoop (Itt K p) g tb1 ⟨N, r, b, c⟩ σ H :=
  for_tup (D := ⟨N, r, b, c⟩) (xs := xs) Pv h0 hl hs hd
def zBody (W : Nat → L2.St → Hp → Prop) (m : Nat) (tb : TS) (D : Ends) (σ : L2.St) (H1 : Hp) : Prop := ∃ N1 : L2.St → Hp → Prop, (∀ σ' H', N1 σ' H' → ∃ m', m' < m ∧ W m' σ' H') ∧ tb { D with nx := N1, ct := N1, bk := D.nx } σ H1
theorem s_zbody {W : Nat → L2.St → Hp → Prop} {m : Nat} {tb1 : TS} (h : tb1 ⟨fun σ2 H2 => ∃ m', m' < m ∧ W m' σ2 H2, r, N, fun σ2 H2 => ∃ m', m' < m ∧ W m' σ2 H2⟩ σ H) : zBody W m tb1 ⟨N, r, b, c⟩ σ H := ⟨_, fun σ2 H2 z => z, h⟩
theorem s_while {tb1 : TS} (W : Nat → L2.St → Hp → Prop) (m0 : Nat) (h0 : W m0 σ H)
    (hs : ∀ (m : Nat) σ' H', W m σ' H' → t σ' H' fun k H1 => zIf k (zBody W m tb1 ⟨N, r, b, c⟩ σ' H1) (N σ' H1)) : tWhile t tb1 ⟨N, r, b, c⟩ σ H := ⟨W, ⟨m0, h0⟩, fun m σ' H' w => hs m σ' H' w⟩
/-! ### heaps -/
theorem up_new {H : Hp} {q a : Addr} {o u : HO} (hq : H q = none) (h : H a = some o) : upd H q u a = some o := by rw [upd_ne (ne_of_none h hq)]; exact h
theorem up_far {H : Hp} {q a : Addr} {o u : HO} (hn : a ≠ q) (h : H a = some o) : upd H q u a = some o := by rw [upd_ne hn]; exact h
theorem sm_rd {H H' : Hp} {a : Addr} {o : HO} (S : Same H H') (h : H a = some o) : H' a = some o := S a o h
theorem same_new {H : Hp} {p : Addr} {o : HO} (h : H p = none) : Same H (upd H p o) := fun b u q => by rw [upd_ne (ne_of_none q h)]; exact q
def Fz : HO → Prop
  | .frz _ _ => True
  | _ => False
/-- all but what stands at p (and isn't locked) is as it was -/
def But (p : Addr) (H H' : Hp) : Prop := ∀ b o, (b ≠ p ∨ Fz o) → H b = some o → H' b = some o
theorem But.refl (p : Addr) (H : Hp) : But p H H := fun _ _ _ h => h
theorem But.trans {p : Addr} {H H1 H2 : Hp} (a : But p H H1) (b : But p H1 H2) : But p H H2 := fun c o n h => b c o n (a c o n h)
theorem But.rd {p : Addr} {H H' : Hp} {a : Addr} {o : HO} (S : But p H H') (n : a ≠ p) (h : H a = some o) : H' a = some o := S a o (.inl n) h
theorem But.of {p : Addr} {H H' : Hp} (S : Same H H') : But p H H' := fun b o _ h => S b o h
theorem But.up {p : Addr} {H H' : Hp} {o u : HO} (S : But p H H') (hp : H' p = some u) (nf : ¬ Fz u) : But p H (L2.upd H' p o) := fun b v n h => by
  have h' := S b v n h
  by_cases e : b = p
  · subst e
    rw [hp] at h'
    cases h'
    rcases n with n | n
    · exact absurd rfl n
    · exact absurd n nf
  · rw [upd_ne e]; exact h'
theorem But.new {p q : Addr} {H H' : Hp} {o : HO} (S : But p H H') (hq : H' q = none) : But p H (L2.upd H' q o) := fun b u n h => by rw [upd_ne (ne_of_none (S b u n h) hq)]; exact S b u n h
theorem But.none {p b : Addr} {H H' : Hp} (S : But p H H') (n : b ≠ p) (h : H' b = Option.none) : H b = Option.none := by
  cases e : H b with
  | none => rfl
  | some o => rw [S b o (.inl n) e] at h; cases h
theorem But.sqL {K : PySem.W.Frag} {p : Addr} {H H' : Hp} {a : Addr} {xs : List V} (S : But p H H') (n : a ≠ p) (h : SqL K H a xs) : SqL K H' a xs := by
  rcases h with (h | ⟨o, h⟩) | h
  · exact .inl (.inl (S _ _ (.inl n) h))
  · exact .inl (.inr ⟨o, S _ _ (.inl n) h⟩)
  · exact .inr h
theorem But.sqT {K : PySem.W.Frag} {p : Addr} {H H' : Hp} {a : Addr} {xs : List V} (S : But p H H') (n : a ≠ p) (h : SqT K H a xs) : SqT K H' a xs := by
  rcases h with (h | ⟨o, h⟩) | h
  · exact .inl (.inl (S _ _ (.inl n) h))
  · exact .inl (.inr ⟨o, S _ _ (.inl n) h⟩)
  · exact .inr h
theorem same_sqT {K : PySem.W.Frag} {H H' : Hp} {a : Addr} {xs : List V} (S : Same H H') (h : SqT K H a xs) : SqT K H' a xs := by
  rcases h with (h | ⟨o, h⟩) | h
  · exact .inl (.inl (S _ _ h))
  · exact .inl (.inr ⟨o, S _ _ h⟩)
  · exact .inr h
/-- the law's script: locked, or of the written part -/
def Scr (K : PySem.W.Frag) (H : Hp) (a : Addr) (ns : List Int) : Prop := (∃ o, H a = some (.frz o (.lst (ns.map V.int)))) ∨
  ∃ (o : Obj) (its : Array Value) (n : Nat), K.lookup a = some o ∧ o.cls = .type "list" ∧ o.dict = none ∧ o.data = .seq its n ∧ its.size ≤ sizeLine ∧ Vals (ns.map V.int) its.toList
theorem Scr.of {K : PySem.W.Frag} {H : Hp} {a : Addr} {ns : List Int} (h0 : Only H) (h : SqL K H a (ns.map V.int)) : Scr K H a ns := by
  rcases h with (h | ⟨o, h⟩) | h
  · rcases h0 a with e | ⟨o, xs, e⟩
    · rw [h] at e; cases e
    · rw [h] at e; cases e
  · exact .inl ⟨o, h⟩
  · exact .inr h
theorem Scr.sq {K : PySem.W.Frag} {H : Hp} {a : Addr} {ns : List Int} (h : Scr K H a ns) : SqL K H a (ns.map V.int) := by
  rcases h with ⟨o, h⟩ | h
  · exact .inl (.inr ⟨o, h⟩)
  · exact .inr h
theorem Scr.but {K : PySem.W.Frag} {H H' : Hp} {p a : Addr} {ns : List Int} (S : But p H H') (h : Scr K H a ns) : Scr K H' a ns := by
  rcases h with ⟨o, h⟩ | h
  · exact .inl ⟨o, S _ _ (.inr trivial) h⟩
  · exact .inr h
theorem Scr.same {K : PySem.W.Frag} {H H' : Hp} {a : Addr} {ns : List Int} (S : Same H H') (h : Scr K H a ns) : Scr K H' a ns := by
  rcases h with ⟨o, h⟩ | h
  · exact .inl ⟨o, S _ _ h⟩
  · exact .inr h
/-- a change of what stands at p, the heap behind it by a name -/
theorem up_but {H : Hp} {p : Addr} {o u : HO} (h : H p = some u) (nf : ¬ Fz u) : But p H (L2.upd H p o) := (But.refl p H).up h nf
theorem c_setL {N1 : Hp → Prop} (n : Nat) (ys : List V) (h1 : H p = some (.lst xs)) (h2 : ixN xs.length i = some n) (h3 : xs.set n v = ys) (h : ∀ H', But p H H' → H' p = some (.lst ys) → N1 H') : rSetL (.ref p) (.int i) v H N1 :=
  s_setL h1 h2 (h _ (up_but h1 (fun z => z)) (by rw [h3]; exact upd_same))
theorem c_acc {D : Addr} {acc : List V} {P : Hp → Prop} (h1 : H D = some (.lst acc)) (h2 : acc.length < sizeLine) (h : ∀ H', But D H H' → H' D = some (.lst (acc ++ [y])) → P H') : zAcc D y H P :=
  s_acc h1 h2 (h _ (up_but h1 (fun z => z)) upd_same)
theorem passC {X : Cx} (σ : L2.St) : PassesAt (L2.CX X.prog X.w) X σ (WE (fun _ _ _ _ => False) σ) := fun pins H s e s' I c => passL pins σ H s e s' I c
theorem c_append (h1 : H p = some (.lst xs)) (h2 : xs.length < sizeLine) (h : ∀ H', But p H H' → H' p = some (.lst (xs ++ [v])) → Q .non H') : rAppend (.ref p) [v] H Q :=
  s_append h1 h2 (h _ (up_but h1 (fun z => z)) upd_same)
/-- a change of what wasn't there at first -/
theorem But.own {p l : Addr} {H H1 H2 : Hp} (a : But p H H1) (b : But l H1 H2) (hl : H l = Option.none) : But p H H2 := fun c o n h => b c o (.inl (ne_of_none h hl)) (a c o n h)
theorem same_own {l : Addr} {H H1 H2 : Hp} (a : Same H H1) (b : But l H1 H2) (hl : H l = Option.none) : Same H H2 := fun c o h => b c o (.inl (ne_of_none h hl)) (a c o h)
/-- tuples stay -/
def TupS (H H' : Hp) : Prop := ∀ b ys, H b = some (.tup ys) → H' b = some (.tup ys)
theorem TupS.refl (H : Hp) : TupS H H := fun _ _ h => h
theorem TupS.trans {H H1 H2 : Hp} (a : TupS H H1) (b : TupS H1 H2) : TupS H H2 := fun c o h => b c o (a c o h)
theorem TupS.new {q : Addr} {H : Hp} {o : HO} (hq : H q = none) : TupS H (L2.upd H q o) := fun b ys h => same_new hq b _ h
theorem TupS.of {H H' : Hp} (S : Same H H') : TupS H H' := fun b _ h => S b _ h
theorem TupS.but {p : Addr} {H H' : Hp} {o : HO} (S : But p H H') (hp : H p = some o) (n : ∀ ys, o ≠ .tup ys) : TupS H H' := fun b ys h => S b _ (.inl fun e => by
  subst e
  rw [hp] at h
  exact n ys (Option.some.inj h)) h
theorem TupS.butN {p : Addr} {H H' : Hp} (S : But p H H') (hp : H p = none) : TupS H H' := fun b ys h => S b _ (.inl fun e => by
  subst e
  rw [hp] at h
  cases h) h
/-- an item of a list of ints, at an open place within -/
theorem at_ints (ns : List Int) {i : Int} (h0 : 0 ≤ i) (h1 : i < ns.length) : ∃ w, w ∈ ns ∧ atI (ns.map V.int) i = some (.int w) := by
  refine ⟨ns[i.toNat]'(by omega), List.getElem_mem _, ?_⟩
  exact at_of (j := i.toNat) (by omega) (by rw [List.getElem?_map, List.getElem?_eq_getElem (by omega)]; rfl)
theorem putK_len {kvs : List (Key × V)} {k : Key} {v w : V} (h : valV kvs k = some w) : (putK kvs k v).length = kvs.length := by
  unfold putK
  rw [valV_any, h]
  simp
theorem valV_put_ne {kvs : List (Key × V)} {k j : Key} {v : V} (h : ¬ j = k) : valV (putK kvs k v) j = valV kvs j := by rw [valV_put, if_neg h]
theorem valV_put_eq {kvs : List (Key × V)} {k : Key} {v : V} : valV (putK kvs k v) k = some v := by rw [valV_put, if_pos rfl]
theorem c_dput_s {z : Str} {kvs : List (Key × V)} {N1 : Hp → Prop} (h1 : H p = some (.dK kvs)) (h2 : kvs.length < sizeLine) (h : ∀ H', But p H H' → H' p = some (.dK (putK kvs (Sum.inr z : Key) v)) → N1 H') : zDPut (.ref p) (.str z) v H N1 :=
  s_zDPut_s h1 h2 (h _ (up_but h1 (fun z => z)) upd_same)
theorem fdiv_abs (a b : Int) : (a.fdiv b).natAbs ≤ a.natAbs + 1 := Nat.le_succ_of_le (Int.natAbs_fdiv_le_natAbs a b)
/-! ### data: laid at most so deep -/
structure Sh (n : Nat) (d : PyData) : Prop where
  c : d.canLay0 = true
  d : d.depth ≤ n
theorem Sh.shaped {n : Nat} {d : PyData} (h : Sh n d) (hn : n ≤ 64) : SeqAt.shaped d = true := by
  unfold SeqAt.shaped
  rw [h.c, decide_eq_true (Nat.le_trans h.d hn)]
  rfl
theorem Sh.mono {n m : Nat} {d : PyData} (h : Sh n d) (hn : n ≤ m) : Sh m d := ⟨h.c, Nat.le_trans h.d hn⟩
theorem Sh.int {n : Nat} (i : Int) : Sh n (.int i) := ⟨rfl, Nat.zero_le _⟩
theorem Sh.non {n : Nat} : Sh n .none := ⟨rfl, Nat.zero_le _⟩
theorem Sh.bl {n : Nat} (b : Bool) : Sh n (.bool b) := ⟨rfl, Nat.zero_le _⟩
theorem Sh.str {n : Nat} {x : Str} (h : PyData.strOk x = true) : Sh n (.str x) := ⟨h, Nat.zero_le _⟩
theorem sh_all {n : Nat} : ∀ {ds : List PyData}, (∀ d ∈ ds, Sh n d) → PyData.canLayAll0 ds = true ∧ PyData.depthAll ds ≤ n
  | [], _ => ⟨rfl, Nat.zero_le _⟩
  | d :: ds, h => by
    have a := h d List.mem_cons_self
    have b := sh_all (ds := ds) fun e he => h e (List.mem_cons_of_mem _ he)
    refine ⟨?_, ?_⟩
    · show (d.canLay0 && PyData.canLayAll0 ds) = true
      rw [a.c, b.1]; rfl
    · show max d.depth (PyData.depthAll ds) ≤ n
      exact Nat.max_le.mpr ⟨a.d, b.2⟩
theorem Sh.list {n : Nat} {ds : List PyData} (h : ∀ d ∈ ds, Sh n d) : Sh (n + 1) (.list ds) := by
  have a := sh_all h
  refine ⟨?_, ?_⟩
  · show PyData.canLayAll0 ds = true
    exact a.1
  · show PyData.depthAll ds + 1 ≤ n + 1
    exact Nat.succ_le_succ a.2
theorem Sh.tup {n : Nat} {ds : List PyData} (h : ∀ d ∈ ds, Sh n d) : Sh (n + 1) (.tuple ds) := by
  have a := sh_all h
  refine ⟨?_, ?_⟩
  · show PyData.canLayAll0 ds = true
    exact a.1
  · show PyData.depthAll ds + 1 ≤ n + 1
    exact Nat.succ_le_succ a.2
theorem Sh.refl {n : Nat} {d : PyData} (h : Sh n d) : PyData.eqv d d = true := SeqAt.eqv_refl d h.c
theorem dp_ints {K : PySem.W.Frag} {H : Hp} : ∀ ns : List Int, DpAll K H (ns.map V.int) (ns.map PyData.int)
  | [] => .nil
  | _ :: ns => .cons (.int _) (dp_ints ns)
theorem sh_ints {n : Nat} (ns : List Int) : ∀ d ∈ ns.map PyData.int, Sh n d := fun d h => by
  obtain ⟨i, _, rfl⟩ := List.mem_map.mp h
  exact Sh.int i
/-! ### specs by the number of arguments -/
def Sp0 (f : Hp → VK → XK → Prop) : Sp := fun vs H Q E => vs = [] ∧ f H Q E
def Sp1 (f : V → Hp → VK → XK → Prop) : Sp := fun vs H Q E => ∃ a, vs = [a] ∧ f a H Q E
def Sp2 (f : V → V → Hp → VK → XK → Prop) : Sp := fun vs H Q E => ∃ a b, vs = [a, b] ∧ f a b H Q E
def Sp3 (f : V → V → V → Hp → VK → XK → Prop) : Sp := fun vs H Q E => ∃ a b c, vs = [a, b, c] ∧ f a b c H Q E
def Sp4 (f : V → V → V → V → Hp → VK → XK → Prop) : Sp := fun vs H Q E => ∃ a b c d, vs = [a, b, c, d] ∧ f a b c d H Q E
def Sp5 (f : V → V → V → V → V → Hp → VK → XK → Prop) : Sp := fun vs H Q E => ∃ a b c d e, vs = [a, b, c, d, e] ∧ f a b c d e H Q E
end
end Z
/-! ### the steps, tried in turn -/
local macro_rules | `(tactic| walk_at "hp") => `(tactic| first
  | with_reducible assumption
  | with_reducible exact upd_same
  | ((with_reducible refine' Z.up_new ?zn ?zq); (case zn => with_reducible assumption); case zq => walk_at "hp")
  | ((with_reducible refine' Z.up_far ?zn ?zq); (case zn => walk_at "ne"); case zq => walk_at "hp")
  | ((with_reducible refine' Z.sm_rd ?zn ?zq); (case zn => with_reducible assumption); case zq => walk_at "hp")
  | ((with_reducible refine' Z.But.rd ?zn ?zm ?zq); (case zn => with_reducible assumption); (case zm => walk_at "ne"); case zq => walk_at "hp"))
local macro_rules | `(tactic| walk_at "ne") => `(tactic| first
  | with_reducible assumption
  | ((with_reducible refine' Ne.symm ?_); with_reducible assumption)
  | ((with_reducible refine' L2.ne_of_none ?zn ?zm); (case zn => with_reducible assumption); case zm => with_reducible assumption)
  | ((with_reducible refine' Ne.symm (L2.ne_of_none ?zn ?zm)); (case zn => with_reducible assumption); case zm => with_reducible assumption))
local macro_rules | `(tactic| walk_at "sq") => `(tactic| first
  | with_reducible assumption
  | ((with_reducible refine' L2.SqL.of ?zq); case zq => walk_at "hp")
  | ((with_reducible refine' L2.SqT.of ?zq); case zq => walk_at "hp")
  | ((with_reducible refine' L2.Same.seq ?zn ?zq); (case zn => with_reducible assumption); case zq => walk_at "sq")
  | ((with_reducible refine' Z.same_sqT ?zn ?zq); (case zn => with_reducible assumption); case zq => walk_at "sq")
  | ((with_reducible refine' Z.But.sqL ?zn ?zm ?zq); (case zn => with_reducible assumption); (case zm => walk_at "ne"); case zq => walk_at "sq")
  | ((with_reducible refine' Z.But.sqT ?zn ?zm ?zq); (case zn => with_reducible assumption); (case zm => walk_at "ne"); case zq => walk_at "sq"))
local macro_rules | `(tactic| walk_at "fit") => `(tactic| first
  | (refine Nat.le_of_ble_eq_true ?_; rfl) | omega)
local macro_rules | `(tactic| walk_at "s") => `(tactic| first
  | with_reducible refine Z.s_seq ?_
  | with_reducible refine Z.s_set ?_
  | ((with_reducible refine' Z.s_var ?zh ?_); case zh => exact rfl)
  | with_reducible refine Z.s_c ?_
  | with_reducible refine Z.s_op ?_
  | with_reducible refine Z.s_cons ?_
  | with_reducible refine Z.s_nil ?_
  | with_reducible refine Z.s_cb ?_
  | with_reducible refine Z.s_callS ?_
  | with_reducible refine Z.s_rI0 ?_
  | with_reducible refine Z.s_add_i ?_
  | with_reducible refine Z.s_test ?_
  | with_reducible refine Z.s_zB ?_
  | with_reducible refine Z.s_if ?_
  | with_reducible refine Z.s_ret ?_
  | with_reducible refine Z.s_next ?_
  | with_reducible refine Z.s_drop ?_
  | with_reducible refine Z.s_eq_i ?_
  | with_reducible refine Z.s_ne_i ?_
  | with_reducible refine Z.s_eq_s ?_
  | with_reducible refine Z.s_ne_s ?_
  | with_reducible refine Z.s_and ?_
  | with_reducible refine Z.s_or ?_
  | with_reducible refine Z.s_not ?_
  | with_reducible refine Z.s_chain ?_
  | with_reducible refine Z.s_B ?_
  | with_reducible refine Z.s_tup ?_
  | with_reducible refine Z.s_lst ?_
  | ((with_reducible refine' Z.s_ztup ?zh ?_); case zh => exact rfl)
  | ((with_reducible refine' Z.s_zlst ?zh ?_); case zh => exact rfl)
  | with_reducible refine Z.s_un ?_
  | with_reducible refine Z.s_rU ?_
  | with_reducible refine Z.s_p18 ?_
  | with_reducible refine Z.s_min2 ?_
  | with_reducible refine Z.s_max2 ?_
  | with_reducible refine Z.s_abs ?_
  | with_reducible refine Z.s_int1 ?_
  | with_reducible refine Z.s_int1b ?_
  | with_reducible refine Z.s_bm ?_
  | with_reducible refine Z.s_bm0 ?_
  | with_reducible refine Z.s_fld ?_
  | with_reducible refine Z.s_dget ?_
  | with_reducible refine Z.s_din ?_
  | with_reducible refine Z.s_dnotin ?_
  | with_reducible refine Z.s_dnew ?_
  | with_reducible refine Z.s_dput ?_
  | with_reducible refine Z.s_disp ?_
  | with_reducible refine Z.s_asg ?_
  | with_reducible refine Z.s_gname ?_
  | with_reducible refine Z.s_gsub ?_
  | with_reducible refine Z.s_gcons ?_
  | with_reducible refine Z.s_gnil ?_
  | with_reducible refine Z.s_for ?_
  | with_reducible refine Z.s_rng1 ?_
  | with_reducible refine Z.s_rng2 ?_
  | with_reducible refine Z.s_itl ?_
  | with_reducible refine Z.s_itt ?_
  | with_reducible refine Z.s_isN ?_
  | with_reducible refine Z.s_notN ?_
  | with_reducible refine Z.s_ift ?_
  | with_reducible refine Z.s_iff ?_
  | with_reducible refine Z.s_nt ?_
  | with_reducible refine Z.s_nf ?_
  | with_reducible refine Z.s_zbody ?_
  | with_reducible refine Z.s_lc ?_
  | with_reducible refine Z.s_yes ?_
  | ((with_reducible refine Z.s_wipe ?zh ?_); case zh => rfl)
  | ((with_reducible refine' Z.s_zitl ?zh ?_); case zh => walk_at "sq")
  | ((with_reducible refine' Z.s_zitt ?zh ?_); case zh => walk_at "sq")
  | with_reducible refine Z.s_ifE ?_
  | with_reducible refine Z.s_andV ?_
  | with_reducible refine Z.s_orV ?_
  | with_reducible refine Z.s_notV ?_
  | with_reducible refine Z.s_retN ?_
  | with_reducible refine Z.s_break ?_
  | with_reducible refine Z.s_cont ?_
  | ((with_reducible refine Z.s_zrng1 ?zh ?_); case zh => omega)
  | ((with_reducible refine Z.s_zrng2 ?zh ?_); case zh => omega)
  | ((with_reducible refine Z.s_modp ?zh ?_); case zh => omega)
  | ((with_reducible refine Z.s_fdvp ?zh ?_); case zh => omega)
  | ((with_reducible refine Z.s_mulp ?zh ?_); case zh => omega)
  | ((with_reducible refine' Z.s_len_l ?zh ?_); case zh => walk_at "sq")
  | ((with_reducible refine' Z.s_len_t ?zh ?_); case zh => walk_at "sq")
  | ((with_reducible refine' Z.s_zTyL ?zh ?_); case zh => walk_at "hp")
  | ((with_reducible refine' Z.s_listof_l ?zh ?_); case zh => walk_at "sq")
  | ((with_reducible refine' Z.s_listof_t ?zh ?_); case zh => walk_at "sq")
  | ((with_reducible refine' Z.s_tupof_l ?zh ?_); case zh => walk_at "sq")
  | ((with_reducible refine' Z.s_tupof_t ?zh ?_); case zh => walk_at "sq")
  | ((with_reducible refine' Z.s_gun_t ?zh ?zl ?_); (case zh => walk_at "sq"); case zl => rfl)
  | ((with_reducible refine' Z.s_gun_l ?zh ?zl ?_); (case zh => walk_at "sq"); case zl => rfl))
local macro_rules | `(tactic| walk_at "zz") => `(tactic| repeat (walk_at "s"))
namespace My
open PySem L2 Z

def top (i : Nat) : Stmt := PySem.Challenge.pw_ownchain_k16_worths_of_rows.main.body.getD i (.Pass ⟨0, 0, 0, 0⟩)
abbrev st_summed : Stmt := top 12
abbrev nm_summed : List Str := ["kind", "one", "other", "found"]
abbrev st_parted_by : Stmt := top 13
abbrev nm_parted_by : List Str := ["kind", "one", "other"]
abbrev st_of_numbers : Stmt := top 14
abbrev nm_of_numbers : List Str := ["kind", "values", "one", "other"]
abbrev st_of_row : Stmt := top 15
abbrev nm_of_row : List Str := ["kind", "values", "row"]
abbrev st_worth : Stmt := top 16
abbrev nm_worth : List Str := ["kind", "values", "rows"]
abbrev st_Lbegin : Stmt := top 18
abbrev nm_Lbegin : List Str := ["_law_script"]
abbrev st_Lmixed : Stmt := top 19
abbrev nm_Lmixed : List Str := ["_law_cell", "_law_k", "_law_one", "_law_two"]
abbrev st_Ltake : Stmt := top 20
abbrev nm_Ltake : List Str := ["_law_state", "_law_most", "_law_script", "_law_k", "_law_cell", "_law_found"]
abbrev st_Lnumber : Stmt := top 21
abbrev nm_Lnumber : List Str := ["_law_state", "_law_way", "_law_edge"]
abbrev st_Lcounted : Stmt := top 22
abbrev nm_Lcounted : List Str := ["_law_kind", "_law_one", "_law_other", "_law_found"]
abbrev st_Ldeed : Stmt := top 23
abbrev nm_Ldeed : List Str := ["_law_kind", "_law_values", "_law_rows", "_law_row"]
abbrev st_Lrow_number : Stmt := top 24
abbrev nm_Lrow_number : List Str := ["_law_state", "_law_rows"]
abbrev st_Lplace : Stmt := top 25
abbrev nm_Lplace : List Str := ["_law_state", "_law_rows", "_law_number_here", "_law_size", "_law_way"]
abbrev st_law : Stmt := top 26
abbrev nm_law : List Str := ["_law_script", "_law_state", "_law_rows", "_law_k", "_law_mine", "_law_kind", "_law_number_here", "_law_values", "_law_ought", "_law_handed", "_law_found", ".0", "_law_j", "_law_row"]
/-- where the top's things stand -/
structure Adr where
  K : PySem.W.Frag
  mg : Str → Option Value
  t_ADD : Tok
  t_SUB : Tok
  t_MUL : Tok
  t_QUO : Tok
  t_REST : Tok
  t_LESS : Tok
  t_SAME : Tok
  t_PUSH : Tok
  t_AT : Tok
  t_SIZE : Tok
  t_MOST_FIGURES : Tok
  f_summed : Addr
  d_summed : FuncData
  f_parted_by : Addr
  d_parted_by : FuncData
  f_of_numbers : Addr
  d_of_numbers : FuncData
  f_of_row : Addr
  d_of_row : FuncData
  f_worth : Addr
  d_worth : FuncData
  f_Lbegin : Addr
  d_Lbegin : FuncData
  f_Lmixed : Addr
  d_Lmixed : FuncData
  f_Ltake : Addr
  d_Ltake : FuncData
  f_Lnumber : Addr
  d_Lnumber : FuncData
  f_Lcounted : Addr
  d_Lcounted : FuncData
  f_Ldeed : Addr
  d_Ldeed : FuncData
  f_Lrow_number : Addr
  d_Lrow_number : FuncData
  f_Lplace : Addr
  d_Lplace : FuncData
  f_law : Addr
  d_law : FuncData
/-- what is known of them -/
structure Top (Z : Adr) : Prop where
  g_ADD : Z.mg "ADD" = some (.int 8 Z.t_ADD)
  g_SUB : Z.mg "SUB" = some (.int 9 Z.t_SUB)
  g_MUL : Z.mg "MUL" = some (.int 10 Z.t_MUL)
  g_QUO : Z.mg "QUO" = some (.int 11 Z.t_QUO)
  g_REST : Z.mg "REST" = some (.int 12 Z.t_REST)
  g_LESS : Z.mg "LESS" = some (.int 13 Z.t_LESS)
  g_SAME : Z.mg "SAME" = some (.int 14 Z.t_SAME)
  g_PUSH : Z.mg "PUSH" = some (.int 15 Z.t_PUSH)
  g_AT : Z.mg "AT" = some (.int 16 Z.t_AT)
  g_SIZE : Z.mg "SIZE" = some (.int 18 Z.t_SIZE)
  g_MOST_FIGURES : Z.mg "MOST_FIGURES" = some (.int 100 Z.t_MOST_FIGURES)
  n_abs : Z.mg "abs" = none
  n_bool : Z.mg "bool" = none
  n_int : Z.mg "int" = none
  n_isinstance : Z.mg "isinstance" = none
  n_len : Z.mg "len" = none
  n_list : Z.mg "list" = none
  n_range : Z.mg "range" = none
  n_str : Z.mg "str" = none
  n_tuple : Z.mg "tuple" = none
  F_summed : Fun Z.K "summed" "summed" st_summed Z.f_summed Z.d_summed
  m_summed : Z.mg "summed" = some (.ref Z.f_summed)
  b_summed : Binds Z.K Z.d_summed ["kind", "one", "other"] []
  F_parted_by : Fun Z.K "parted_by" "parted_by" st_parted_by Z.f_parted_by Z.d_parted_by
  m_parted_by : Z.mg "parted_by" = some (.ref Z.f_parted_by)
  b_parted_by : Binds Z.K Z.d_parted_by ["kind", "one", "other"] []
  F_of_numbers : Fun Z.K "of_numbers" "of_numbers" st_of_numbers Z.f_of_numbers Z.d_of_numbers
  m_of_numbers : Z.mg "of_numbers" = some (.ref Z.f_of_numbers)
  b_of_numbers : Binds Z.K Z.d_of_numbers ["kind", "values"] []
  F_of_row : Fun Z.K "of_row" "of_row" st_of_row Z.f_of_row Z.d_of_row
  m_of_row : Z.mg "of_row" = some (.ref Z.f_of_row)
  b_of_row : Binds Z.K Z.d_of_row ["kind", "values", "row"] []
  F_worth : Fun Z.K "worth" "worth" st_worth Z.f_worth Z.d_worth
  m_worth : Z.mg "worth" = some (.ref Z.f_worth)
  b_worth : Binds Z.K Z.d_worth ["kind", "values", "rows"] []
  F_Lbegin : Fun Z.K "_law_begin" "_law_begin" st_Lbegin Z.f_Lbegin Z.d_Lbegin
  m_Lbegin : Z.mg "_law_begin" = some (.ref Z.f_Lbegin)
  b_Lbegin : Binds Z.K Z.d_Lbegin ["_law_script"] []
  F_Lmixed : Fun Z.K "_law_mixed" "_law_mixed" st_Lmixed Z.f_Lmixed Z.d_Lmixed
  m_Lmixed : Z.mg "_law_mixed" = some (.ref Z.f_Lmixed)
  b_Lmixed : Binds Z.K Z.d_Lmixed ["_law_cell", "_law_k"] []
  F_Ltake : Fun Z.K "_law_take" "_law_take" st_Ltake Z.f_Ltake Z.d_Ltake
  m_Ltake : Z.mg "_law_take" = some (.ref Z.f_Ltake)
  b_Ltake : Binds Z.K Z.d_Ltake ["_law_state", "_law_most"] []
  F_Lnumber : Fun Z.K "_law_number" "_law_number" st_Lnumber Z.f_Lnumber Z.d_Lnumber
  m_Lnumber : Z.mg "_law_number" = some (.ref Z.f_Lnumber)
  b_Lnumber : Binds Z.K Z.d_Lnumber ["_law_state"] []
  F_Lcounted : Fun Z.K "_law_counted" "_law_counted" st_Lcounted Z.f_Lcounted Z.d_Lcounted
  m_Lcounted : Z.mg "_law_counted" = some (.ref Z.f_Lcounted)
  b_Lcounted : Binds Z.K Z.d_Lcounted ["_law_kind", "_law_one", "_law_other"] []
  F_Ldeed : Fun Z.K "_law_deed" "_law_deed" st_Ldeed Z.f_Ldeed Z.d_Ldeed
  m_Ldeed : Z.mg "_law_deed" = some (.ref Z.f_Ldeed)
  b_Ldeed : Binds Z.K Z.d_Ldeed ["_law_kind", "_law_values", "_law_rows"] []
  F_Lrow_number : Fun Z.K "_law_row_number" "_law_row_number" st_Lrow_number Z.f_Lrow_number Z.d_Lrow_number
  m_Lrow_number : Z.mg "_law_row_number" = some (.ref Z.f_Lrow_number)
  b_Lrow_number : Binds Z.K Z.d_Lrow_number ["_law_state", "_law_rows"] []
  F_Lplace : Fun Z.K "_law_place" "_law_place" st_Lplace Z.f_Lplace Z.d_Lplace
  m_Lplace : Z.mg "_law_place" = some (.ref Z.f_Lplace)
  b_Lplace : Binds Z.K Z.d_Lplace ["_law_state", "_law_rows", "_law_number_here"] []
  F_law : Fun Z.K "law" "law" st_law Z.f_law Z.d_law
  m_law : Z.mg "law" = some (.ref Z.f_law)
  b_law : Binds Z.K Z.d_law ["_law_script"] []
theorem Top.k_all {Z : Adr} (_ : Top Z) : True := trivial
theorem Top.k_summed {Z : Adr} (T : Top Z) : PySem.W.keepIn Z.K (.ref Z.f_summed) = true := T.F_summed.kp
theorem Top.k_parted_by {Z : Adr} (T : Top Z) : PySem.W.keepIn Z.K (.ref Z.f_parted_by) = true := T.F_parted_by.kp
theorem Top.k_of_numbers {Z : Adr} (T : Top Z) : PySem.W.keepIn Z.K (.ref Z.f_of_numbers) = true := T.F_of_numbers.kp
theorem Top.k_of_row {Z : Adr} (T : Top Z) : PySem.W.keepIn Z.K (.ref Z.f_of_row) = true := T.F_of_row.kp
theorem Top.k_worth {Z : Adr} (T : Top Z) : PySem.W.keepIn Z.K (.ref Z.f_worth) = true := T.F_worth.kp
theorem Top.k_Lbegin {Z : Adr} (T : Top Z) : PySem.W.keepIn Z.K (.ref Z.f_Lbegin) = true := T.F_Lbegin.kp
theorem Top.k_Lmixed {Z : Adr} (T : Top Z) : PySem.W.keepIn Z.K (.ref Z.f_Lmixed) = true := T.F_Lmixed.kp
theorem Top.k_Ltake {Z : Adr} (T : Top Z) : PySem.W.keepIn Z.K (.ref Z.f_Ltake) = true := T.F_Ltake.kp
theorem Top.k_Lnumber {Z : Adr} (T : Top Z) : PySem.W.keepIn Z.K (.ref Z.f_Lnumber) = true := T.F_Lnumber.kp
theorem Top.k_Lcounted {Z : Adr} (T : Top Z) : PySem.W.keepIn Z.K (.ref Z.f_Lcounted) = true := T.F_Lcounted.kp
theorem Top.k_Ldeed {Z : Adr} (T : Top Z) : PySem.W.keepIn Z.K (.ref Z.f_Ldeed) = true := T.F_Ldeed.kp
theorem Top.k_Lrow_number {Z : Adr} (T : Top Z) : PySem.W.keepIn Z.K (.ref Z.f_Lrow_number) = true := T.F_Lrow_number.kp
theorem Top.k_Lplace {Z : Adr} (T : Top Z) : PySem.W.keepIn Z.K (.ref Z.f_Lplace) = true := T.F_Lplace.kp
theorem Top.k_law {Z : Adr} (T : Top Z) : PySem.W.keepIn Z.K (.ref Z.f_law) = true := T.F_law.kp
/-! ### deeds: what two numbers, a row, the rows come to -/
inductive Wo where
  | ok (v : Int)
  | flt (s : Str)
def Wo.vs : Wo → List V
  | .ok v => [.non, .int v]
  | .flt s => [.str s, .int 0]
def Fig (x : Int) : Prop := x.natAbs < 10 ^ 100
def sumW (k a b : Int) : Wo :=
  if (if k = 8 then a + b else if k = 9 then a - b else a * b).natAbs < 10 ^ 100 then .ok (if k = 8 then a + b else if k = 9 then a - b else a * b) else .flt "great"
def quoW (k a b : Int) : Wo := if b = 0 then .flt "zero" else if k = 11 then .ok (a.fdiv b) else .ok (a.fmod b)
def numW (k a b : Int) : Wo := if k = 8 ∨ k = 9 ∨ k = 10 then sumW k a b else if k = 11 ∨ k = 12 then quoW k a b else if k = 13 then .ok (if a < b then 1 else 0) else .ok (if a = b then 1 else 0)
def woD : Wo → PyData
  | .ok v => .tuple [.none, .int v]
  | .flt s => .tuple [.str s, .int 0]
theorem woD_dp {K : PySem.W.Frag} {H : Hp} {t : Addr} : ∀ {w : Wo}, H t = some (.tup w.vs) → Dp K H (.ref t) (woD w)
  | .ok _, h => .tup (SqT.of h) (.cons .non (.cons (.int _) .nil))
  | .flt _, h => .tup (SqT.of h) (.cons (.str _) (.cons (.int _) .nil))
def Wo.fine : Wo → Prop
  | .ok _ => True
  | .flt s => PyData.strOk s = true
theorem woD_sh : ∀ {w : Wo}, w.fine → Sh 1 (woD w)
  | .ok _, _ => Sh.tup fun d h => by
    rcases List.mem_cons.mp h with rfl | h
    · exact Sh.non
    · cases List.mem_singleton.mp h; exact Sh.int _
  | .flt _, hs => Sh.tup fun d h => by
    rcases List.mem_cons.mp h with rfl | h
    · exact Sh.str hs
    · cases List.mem_singleton.mp h; exact Sh.int _
theorem numW_fine (k a b : Int) : (numW k a b).fine := by
  unfold numW sumW quoW
  repeat' split
  all_goals first | trivial | (show PyData.strOk _ = true; decide +kernel)
theorem fig_log {x : Int} (h : Fig x) : x.natAbs.log2 < 400 := PySem.Flt.log2_lt_of (by decide) (Nat.lt_of_lt_of_le h (by decide +kernel))
theorem fig_mul {a b : Int} (ha : Fig a) (hb : Fig b) : CMulW a b := by
  have h1 := fig_log ha
  have h2 := fig_log hb
  unfold CMulW
  omega
theorem len_digits (z : Int) : ((Str.ofString (toString (if z < 0 then -z else z)) : Str).length : Int) ≤ 100 ↔ z.natAbs < 10 ^ 100 := by
  have e : (if z < 0 then -z else z) = ((z.natAbs : Nat) : Int) := by split <;> omega
  rw [e]
  have s := PySem.W.KIN.signs_num z.natAbs
  have l : (Str.ofString (toString ((z.natAbs : Nat) : Int)) : Str).length = (Nat.toDigits 10 z.natAbs).length := by
    have := congrArg List.length s
    rw [List.length_map] at this
    exact this
  rw [l]
  have := Nat.length_toDigits_le_iff (b := 10) (n := z.natAbs) (k := 100) (by decide) (by decide)
  omega
def q_summed (Z : Adr) (k x y : V) (H : Hp) (Q : VK) (E : XK) : Prop := ∃ i a b : Int, k = .int i ∧ x = .int a ∧ y = .int b ∧ Fig a ∧ Fig b ∧ ∀ t, H t = none → Q (.ref t) (upd H t (.tup (sumW i a b).vs))
def q_parted_by (Z : Adr) (k x y : V) (H : Hp) (Q : VK) (E : XK) : Prop := ∃ i a b : Int, k = .int i ∧ x = .int a ∧ y = .int b ∧ Fig a ∧ Fig b ∧ ∀ t, H t = none → Q (.ref t) (upd H t (.tup (quoW i a b).vs))
def q_of_numbers (Z : Adr) (k l : V) (H : Hp) (Q : VK) (E : XK) : Prop := ∃ (i a b : Int) (lv : Addr), k = .int i ∧ l = .ref lv ∧ H lv = some (.lst [.int a, .int b]) ∧ Fig a ∧ Fig b ∧
  ∀ t H', Same H H' → H t = none → H' t = some (.tup (numW i a b).vs) → Q (.ref t) H'
/-- what a row comes to by a kind from 15 to 18 -/
def rowW (k : Int) (vs row : List Int) : Wo × List Int :=
  if k = 18 then (.ok row.length, row)
  else if k = 15 then (.ok (vs.getD 1 0), row ++ [vs.getD 1 0])
  else if 0 ≤ vs.getD 1 0 ∧ vs.getD 1 0 < row.length then
    if k = 16 then (.ok (row.getD (vs.getD 1 0).toNat 0), row) else (.ok (vs.getD 2 0), row.set (vs.getD 1 0).toNat (vs.getD 2 0))
  else (.flt "place", row)
def rowsW (k : Int) (vs : List Int) (cs : List (List Int)) : Wo × List (List Int) :=
  if k = 19 then (.ok cs.length, cs ++ [[]])
  else if 0 ≤ vs.getD 0 0 ∧ vs.getD 0 0 < cs.length then
    ((rowW k vs (cs.getD (vs.getD 0 0).toNat [])).1, cs.set (vs.getD 0 0).toNat (rowW k vs (cs.getD (vs.getD 0 0).toNat [])).2)
  else (.flt "row", cs)
/-- rows as they lie -/
structure HeapAt (H : Hp) (lr : Addr) (as : List Addr) (cs : List (List Int)) : Prop where
  top : H lr = some (.lst (as.map V.ref))
  row : ∀ (i : Nat) (a : Addr), as[i]? = some a → ∃ c, cs[i]? = some c ∧ H a = some (.lst (c.map V.int))
  len : as.length = cs.length
  nd : as.Nodup
  ne : lr ∉ as
/-- all but some rows is as it was -/
def Fr (lr : Addr) (as : List Addr) (H H' : Hp) : Prop := ∀ b o, ((b ≠ lr ∧ b ∉ as) ∨ Fz o) → H b = some o → H' b = some o
theorem HeapAt.free {H : Hp} {lr q : Addr} {as : List Addr} {cs : List (List Int)} (h : HeapAt H lr as cs) (hq : H q = none) : q ≠ lr ∧ q ∉ as := by
  refine ⟨(ne_of_none h.top hq).symm, fun z => ?_⟩
  obtain ⟨j, hj⟩ := List.mem_iff_getElem?.mp z
  obtain ⟨c, _, e⟩ := h.row j q hj
  rw [hq] at e; cases e
theorem HeapAt.keep {H H' : Hp} {lr : Addr} {as : List Addr} {cs : List (List Int)} (h : HeapAt H lr as cs) (k : ∀ b xs, (b = lr ∨ b ∈ as) → H b = some (.lst xs) → H' b = some (.lst xs)) : HeapAt H' lr as cs :=
  ⟨k _ _ (.inl rfl) h.top, fun i a hi => by
    obtain ⟨c, e1, e2⟩ := h.row i a hi
    exact ⟨c, e1, k _ _ (.inr (List.mem_of_getElem? hi)) e2⟩, h.len, h.nd, h.ne⟩
theorem HeapAt.same {H H' : Hp} {lr : Addr} {as : List Addr} {cs : List (List Int)} (h : HeapAt H lr as cs) (S : Same H H') : HeapAt H' lr as cs := h.keep fun b _ _ e => S b _ e
theorem HeapAt.but {H H' : Hp} {p lr : Addr} {as : List Addr} {cs : List (List Int)} (h : HeapAt H lr as cs) (B : But p H H') (n1 : p ≠ lr) (n2 : p ∉ as) : HeapAt H' lr as cs :=
  h.keep fun b xs z e => B b (.lst xs) (Or.inl fun w => by
    subst w
    rcases z with z | z
    · exact n1 z
    · exact n2 z) e
/-- p is no row: something else stands there -/
theorem HeapAt.other {H : Hp} {p lr : Addr} {as : List Addr} {cs : List (List Int)} {o : HO} (h : HeapAt H lr as cs) (hp : H p = some o) (no : ∀ xs, o ≠ .lst xs) : p ≠ lr ∧ p ∉ as := by
  refine ⟨fun e => no _ (by rw [e, h.top] at hp; exact (Option.some.inj hp).symm), fun z => ?_⟩
  obtain ⟨j, hj⟩ := List.mem_iff_getElem?.mp z
  obtain ⟨c, _, e⟩ := h.row j p hj
  rw [hp] at e
  exact no _ (Option.some.inj e)
theorem HeapAt.fr {H H' : Hp} {lr lm : Addr} {as bs : List Addr} {cs : List (List Int)} (h : HeapAt H lr as cs) (F : Fr lm bs H H') (n1 : lr ≠ lm) (n2 : lr ∉ bs) (n3 : lm ∉ as) (n4 : ∀ a ∈ as, a ∉ bs) : HeapAt H' lr as cs :=
  h.keep fun b xs z e => F b _ (Or.inl (by
    rcases z with z | z
    · subst z; exact ⟨n1, n2⟩
    · exact ⟨fun w => n3 (w ▸ z), n4 b z⟩)) e
theorem HeapAt.push {H H' : Hp} {lr l : Addr} {as : List Addr} {cs : List (List Int)} {c : List Int} (h : HeapAt H lr as cs) (hl : H l = some (.lst (c.map V.int))) (n1 : l ≠ lr) (n2 : l ∉ as) (B : But lr H H') (e : H' lr = some (.lst (as.map V.ref ++ [V.ref l]))) :
    HeapAt H' lr (as ++ [l]) (cs ++ [c]) := by
  refine ⟨by rw [e, List.map_append]; rfl, fun j a hj => ?_, by rw [List.length_append, List.length_append, h.len]; rfl, ?_, ?_⟩
  · by_cases hjl : j < as.length
    · rw [List.getElem?_append_left hjl] at hj
      obtain ⟨c, e1, e2⟩ := h.row j a hj
      exact ⟨c, by rw [List.getElem?_append_left (by rw [← h.len]; exact hjl)]; exact e1, B _ _ (.inl fun z => h.ne (z ▸ List.mem_of_getElem? hj)) e2⟩
    · rw [List.getElem?_append_right (by omega)] at hj
      have hj0 : j - as.length = 0 := by
        have := (List.getElem?_eq_some_iff.mp hj).1
        simp only [List.length_singleton] at this
        omega
      rw [hj0] at hj
      cases hj
      exact ⟨c, by rw [List.getElem?_append_right (by rw [← h.len]; omega), ← h.len, hj0]; rfl, B _ _ (.inl n1) hl⟩
  · rw [List.nodup_append]
    exact ⟨h.nd, by simp, fun a ha b hb => by cases List.mem_singleton.mp hb; intro z; subst z; exact n2 ha⟩
  · intro z
    rcases List.mem_append.mp z with z | z
    · exact h.ne z
    · exact n1 (List.mem_singleton.mp z).symm
theorem heap_dp {K : PySem.W.Frag} {H : Hp} {lr : Addr} {as : List Addr} {cs : List (List Int)} (h : HeapAt H lr as cs) : Dp K H (.ref lr) (.list (cs.map fun c => .list (c.map .int))) := by
  refine .lst (SqL.of h.top) ?_
  have key : ∀ (as : List Addr) (cs : List (List Int)), as.length = cs.length → (∀ (i : Nat) (a : Addr), as[i]? = some a → ∃ c, cs[i]? = some c ∧ H a = some (.lst (c.map V.int))) → DpAll K H (as.map V.ref) (cs.map fun c => PyData.list (c.map .int)) := by
    intro as
    induction as with
    | nil => intro cs hl _; cases cs with
      | nil => exact .nil
      | cons => cases hl
    | cons a r ih =>
      intro cs hl hr
      cases cs with
      | nil => cases hl
      | cons c s =>
        obtain ⟨c', e, hc⟩ := hr 0 a rfl
        cases e
        exact .cons (.lst (SqL.of hc) (dp_ints c)) (ih s (by simpa using hl) fun i b hb => hr (i + 1) b hb)
  exact key as cs h.len h.row
theorem heap_sh (cs : List (List Int)) : Sh 2 (.list (cs.map fun c => .list (c.map .int))) := Sh.list fun d h => by
  obtain ⟨c, _, rfl⟩ := List.mem_map.mp h
  exact Sh.list (sh_ints c)
def Few (m n : Nat) (cs : List (List Int)) : Prop := cs.length ≤ m ∧ ∀ c ∈ cs, c.length ≤ n
theorem rowW_few {k : Int} {vs row : List Int} : (rowW k vs row).2.length ≤ row.length + 1 := by
  unfold rowW
  repeat' split
  all_goals simp
theorem rowsW_few {k : Int} {vs : List Int} {cs : List (List Int)} {m n : Nat} (h : Few m n cs) : Few (m + 1) (n + 1) (rowsW k vs cs).2 := by
  obtain ⟨h1, h2⟩ := h
  unfold rowsW
  split
  · refine ⟨by simp; exact h1, fun c hc => ?_⟩
    rcases List.mem_append.mp hc with z | z
    · have := h2 c z; omega
    · cases List.mem_singleton.mp z; exact Nat.zero_le _
  · split
    · refine ⟨by rw [List.length_set]; omega, fun c hc => ?_⟩
      rcases List.mem_or_eq_of_mem_set hc with z | z
      · have := h2 c z; omega
      · subst z
        have := rowW_few (k := k) (vs := vs) (row := cs.getD (vs.getD 0 0).toNat [])
        have : (cs.getD (vs.getD 0 0).toNat []).length ≤ n := by
          rw [List.getD_eq_getElem?_getD]
          cases e : cs[(vs.getD 0 0).toNat]? with
          | none => exact Nat.zero_le _
          | some c => exact h2 c (List.mem_of_getElem? e)
        omega
    · exact ⟨Nat.le_succ_of_le h1, fun c hc => Nat.le_succ_of_le (h2 c hc)⟩
theorem rowsW_len {k : Int} {vs : List Int} {cs : List (List Int)} : cs.length ≤ (rowsW k vs cs).2.length := by
  unfold rowsW
  repeat' split
  all_goals simp
theorem rowsW_fine (k : Int) (vs : List Int) (cs : List (List Int)) : (rowsW k vs cs).1.fine := by
  unfold rowsW rowW
  repeat' split
  all_goals first | trivial | (show PyData.strOk _ = true; decide +kernel)
def partsN (k : Int) : Nat := if k = 19 then 0 else if k = 18 then 1 else if k = 17 then 3 else 2
def q_of_row (Z : Adr) (k l r : V) (H : Hp) (Q : VK) (E : XK) : Prop := ∃ (i : Int) (lv a : Addr) (vs c : List Int), k = .int i ∧ l = .ref lv ∧ r = .ref a ∧ 15 ≤ i ∧ i ≤ 18 ∧ vs.length = partsN i ∧ lv ≠ a ∧
  H lv = some (.lst (vs.map V.int)) ∧ H a = some (.lst (c.map V.int)) ∧ c.length < 10000000 ∧
  ∀ t H', But a H H' → H' a = some (.lst ((rowW i vs c).2.map V.int)) → H t = none → H' t = some (.tup (rowW i vs c).1.vs) → Q (.ref t) H'
def q_worth (Z : Adr) (k l r : V) (H : Hp) (Q : VK) (E : XK) : Prop :=
  (∃ (i a b : Int) (lv : Addr), k = .int i ∧ l = .ref lv ∧ 8 ≤ i ∧ i ≤ 14 ∧ H lv = some (.lst [.int a, .int b]) ∧ Fig a ∧ Fig b ∧
    ∀ t H', Same H H' → H t = none → H' t = some (.tup (numW i a b).vs) → Q (.ref t) H') ∨
  ∃ (i : Int) (lv lr : Addr) (vs : List Int) (as : List Addr) (cs : List (List Int)), k = .int i ∧ l = .ref lv ∧ r = .ref lr ∧ 15 ≤ i ∧ i ≤ 19 ∧ vs.length = partsN i ∧ H lv = some (.lst (vs.map V.int)) ∧ HeapAt H lr as cs ∧ lv ∉ as ∧ lv ≠ lr ∧
    cs.length < 10000000 ∧ (∀ c ∈ cs, c.length < 10000000) ∧
    ∀ t as' H', Fr lr as H H' → HeapAt H' lr as' (rowsW i vs cs).2 → (∀ n ∈ as', n ∈ as ∨ H n = none) → H t = none → t ∉ as' → H' t = some (.tup (rowsW i vs cs).1.vs) → Q (.ref t) H'

/-! ### a generator whose state is a dict: script, at, left -/
theorem k_sa : ¬ ((kS "script") = kS "at") := by decide +kernel
theorem k_as : ¬ ((kS "at") = kS "script") := by decide +kernel
theorem k_sl : ¬ ((kS "script") = kS "left") := by decide +kernel
theorem k_ls : ¬ ((kS "left") = kS "script") := by decide +kernel
theorem k_al : ¬ ((kS "at") = kS "left") := by decide +kernel
theorem k_la : ¬ ((kS "left") = kS "at") := by decide +kernel
/-- the dict's pairs -/
structure StK (kvs : List (Key × V)) (sa : Addr) (k l : Int) : Prop where
  s : valV kvs (kS "script") = some (.ref sa)
  a : valV kvs (kS "at") = some (.int k)
  l : valV kvs (kS "left") = some (.int l)
  z : kvs.length ≤ 3
theorem StK.at_ {kvs : List (Key × V)} {sa : Addr} {k l : Int} (h : StK kvs sa k l) (j : Int) : StK (putK kvs (kS "at") (.int j)) sa j l :=
  ⟨by rw [valV_put_ne k_sa]; exact h.s, valV_put_eq, by rw [valV_put_ne k_la]; exact h.l, by rw [putK_len h.a]; exact h.z⟩
theorem StK.left_ {kvs : List (Key × V)} {sa : Addr} {k l : Int} (h : StK kvs sa k l) (j : Int) : StK (putK kvs (kS "left") (.int j)) sa k j :=
  ⟨by rw [valV_put_ne k_sl]; exact h.s, by rw [valV_put_ne k_al]; exact h.a, valV_put_eq, by rw [putK_len h.l]; exact h.z⟩
theorem StK.new (sa : Addr) : StK (mergeK [] [((kS "script"), V.ref sa), (kS "at", .int 0), (kS "left", .int 0)]) sa 0 0 := by
  show StK (putK (putK (putK [] (kS "script") (.ref sa)) (kS "at") (.int 0)) (kS "left") (.int 0)) sa 0 0
  refine ⟨?_, ?_, valV_put_eq, ?_⟩
  · rw [valV_put_ne k_sl, valV_put_ne k_sa, valV_put_eq]
  · rw [valV_put_ne k_al, valV_put_eq]
  · have e1 : putK ([] : List (Key × V)) (kS "script") (.ref sa) = [(kS "script", .ref sa)] := putK_new _ valV_nil
    have e2 : valV (putK ([] : List (Key × V)) (kS "script") (.ref sa)) (kS "at") = none := by rw [valV_put_ne k_as]; exact valV_nil
    have e3 : valV (putK (putK ([] : List (Key × V)) (kS "script") (.ref sa)) (kS "at") (.int 0)) (kS "left") = none := by rw [valV_put_ne k_la, valV_put_ne k_ls]; exact valV_nil
    rw [putK_new _ e3, putK_new _ e2, e1]
    exact Nat.le_refl _
def StD (K : PySem.W.Frag) (H : Hp) (p : Addr) : Prop := ∃ (kvs : List (Key × V)) (sa : Addr) (ns : List Int) (k l : Int), H p = some (.dK kvs) ∧ StK kvs sa k l ∧ Scr K H sa ns ∧ 0 ≤ k ∧ 0 ≤ l
theorem StD.ne {K : PySem.W.Frag} {H : Hp} {p q : Addr} (h : StD K H p) (hq : H q = none) : q ≠ p := by
  obtain ⟨kvs, sa, ns, k, l, hp, _⟩ := h
  exact (ne_of_none hp hq).symm
theorem StD.but {K : PySem.W.Frag} {H H' : Hp} {p q : Addr} (h : StD K H p) (B : But q H H') (n : p ≠ q) : StD K H' p := by
  obtain ⟨kvs, sa, ns, k, l, hp, hk, hS, h0, h1⟩ := h
  exact ⟨kvs, sa, ns, k, l, B _ _ (.inl n) hp, hk, hS.but B, h0, h1⟩
theorem StD.same {K : PySem.W.Frag} {H H' : Hp} {p : Addr} (h : StD K H p) (S : Same H H') : StD K H' p := by
  obtain ⟨kvs, sa, ns, k, l, hp, hk, hS, h0, h1⟩ := h
  exact ⟨kvs, sa, ns, k, l, S _ _ hp, hk, hS.same S, h0, h1⟩
theorem StD.new {K : PySem.W.Frag} {H : Hp} {p q : Addr} {o : HO} (h : StD K H p) (hq : H q = none) : StD K (upd H q o) p := h.same (same_new hq)
theorem StD.tups {K : PySem.W.Frag} {H H' : Hp} {p : Addr} (h : StD K H p) (B : But p H H') : TupS H H' := by
  obtain ⟨kvs, sa, ns, k, l, hp, _⟩ := h
  exact TupS.but B hp fun ys e => by cases e
theorem StD.lst {K : PySem.W.Frag} {H : Hp} {p q : Addr} {xs : List V} (h : StD K H p) (hq : H q = some (.lst xs)) : q ≠ p := by
  obtain ⟨kvs, sa, ns, k, l, hp, _⟩ := h
  exact ne_of hq hp (by intro z; cases z)
theorem StD.keep {K : PySem.W.Frag} {H H' : Hp} {p : Addr} (h : StD K H p) (k : ∀ b o, (b = p ∨ Fz o) → H b = some o → H' b = some o) : StD K H' p := by
  obtain ⟨kvs, sa, ns, kk, l, hp, hk, hS, h0, h1⟩ := h
  refine ⟨kvs, sa, ns, kk, l, k _ _ (.inl rfl) hp, hk, ?_, h0, h1⟩
  rcases hS with ⟨o, e⟩ | e
  · exact .inl ⟨o, k _ _ (.inr trivial) e⟩
  · exact .inr e
theorem StD.obj {K : PySem.W.Frag} {H : Hp} {p : Addr} (h : StD K H p) : ∃ o, H p = some o ∧ ∀ xs, o ≠ .lst xs := by
  obtain ⟨kvs, sa, ns, k, l, hp, _⟩ := h
  exact ⟨_, hp, fun xs e => by cases e⟩
def q_Lbegin (Z : Adr) (a : V) (H : Hp) (Q : VK) (E : XK) : Prop := ∃ sa ns, a = .ref sa ∧ Scr Z.K H sa ns ∧ ∀ p H', Same H H' → H p = none → StD Z.K H' p → Q (.ref p) H'
def q_Lmixed (Z : Adr) (a b : V) (H : Hp) (Q : VK) (E : XK) : Prop := ∃ c k, a = .int c ∧ b = .int k ∧ ∀ z, 0 ≤ z → Q (.int z) H
def q_Ltake (Z : Adr) (a b : V) (H : Hp) (Q : VK) (E : XK) : Prop := ∃ p m, a = .ref p ∧ b = .int m ∧ 0 < m ∧ m < 1000000 ∧ StD Z.K H p ∧ ∀ v H', 0 ≤ v → v < m → StD Z.K H' p → But p H H' → Q (.int v) H'

def q_Lnumber (Z : Adr) (a : V) (H : Hp) (Q : VK) (E : XK) : Prop := ∃ p, a = .ref p ∧ StD Z.K H p ∧ ∀ v H', Fig v → StD Z.K H' p → But p H H' → Q (.int v) H'
def woV : Wo → V
  | .ok v => .int v
  | .flt s => .str s
def q_Lcounted (Z : Adr) (k x y : V) (H : Hp) (Q : VK) (E : XK) : Prop := False
def q_Ldeed (Z : Adr) (k l r : V) (H : Hp) (Q : VK) (E : XK) : Prop :=
  ∃ (i : Int) (lv lr : Addr) (vs : List Int) (as : List Addr) (cs : List (List Int)), k = .int i ∧ l = .ref lv ∧ r = .ref lr ∧ 15 ≤ i ∧ i ≤ 19 ∧ vs.length = partsN i ∧ H lv = some (.lst (vs.map V.int)) ∧ HeapAt H lr as cs ∧ lv ∉ as ∧ lv ≠ lr ∧
    Few 1000 1000 cs ∧ ∀ as' H', Fr lr as H H' → HeapAt H' lr as' (rowsW i vs cs).2 → (∀ n ∈ as', n ∈ as ∨ H n = none) → Q (woV (rowsW i vs cs).1) H'
def q_Lrow_number (Z : Adr) (a r : V) (H : Hp) (Q : VK) (E : XK) : Prop := ∃ p lr as cs, a = .ref p ∧ r = .ref lr ∧ StD Z.K H p ∧ HeapAt H lr as cs ∧ 0 < cs.length ∧ cs.length < 1000 ∧ ∀ v H', StD Z.K H' p → But p H H' → Q (.int v) H'
def q_Lplace (Z : Adr) (a r n : V) (H : Hp) (Q : VK) (E : XK) : Prop := ∃ p lr as cs i, a = .ref p ∧ r = .ref lr ∧ n = .int i ∧ StD Z.K H p ∧ HeapAt H lr as cs ∧ Few 1000 1000 cs ∧ ∀ v H', StD Z.K H' p → But p H H' → Q (.int v) H'
def q_law (Z : Adr) (v : V) (H : Hp) (Q : VK) (E : XK) : Prop := ∃ (a : Addr) (ns : List Int), v = .ref a ∧ Only H ∧ Scr Z.K H a ns ∧ ns.length ≤ 63 ∧ ∀ H', Q (.bl true) H'
/-- the rows and the law's own, side by side -/
structure Two (K : PySem.W.Frag) (H : Hp) (p lr lm : Addr) (as bs : List Addr) (cs : List (List Int)) : Prop where
  d : StD K H p
  r : HeapAt H lr as cs
  m : HeapAt H lm bs cs
  n1 : lr ≠ lm
  n2 : lr ∉ bs
  n3 : lm ∉ as
  n4 : ∀ a ∈ as, a ∉ bs
theorem Two.same {K : PySem.W.Frag} {H H' : Hp} {p lr lm : Addr} {as bs : List Addr} {cs : List (List Int)} (h : Two K H p lr lm as bs cs) (S : Same H H') : Two K H' p lr lm as bs cs :=
  ⟨h.d.same S, h.r.same S, h.m.same S, h.n1, h.n2, h.n3, h.n4⟩
theorem Two.new {K : PySem.W.Frag} {H : Hp} {p lr lm q : Addr} {o : HO} {as bs : List Addr} {cs : List (List Int)} (h : Two K H p lr lm as bs cs) (hq : H q = none) : Two K (upd H q o) p lr lm as bs cs := h.same (same_new hq)
theorem Two.but {K : PySem.W.Frag} {H H' : Hp} {p lr lm : Addr} {as bs : List Addr} {cs : List (List Int)} (h : Two K H p lr lm as bs cs) (d : StD K H' p) (B : But p H H') : Two K H' p lr lm as bs cs := by
  obtain ⟨o, ho, no⟩ := h.d.obj
  have np := h.r.other ho no
  have nq := h.m.other ho no
  exact ⟨d, h.r.but B np.1 np.2, h.m.but B nq.1 nq.2, h.n1, h.n2, h.n3, h.n4⟩

def sp_summed (Z : Adr) : Sp := Sp3 (q_summed Z)
theorem cl_summed {Z : Adr} {a0 a1 a2 : V} {H : Hp} {Q : VK} {E : XK} (h : q_summed Z a0 a1 a2 H Q E) : sp_summed Z [a0, a1, a2] H Q E := ⟨a0, a1, a2, rfl, h⟩
def sp_parted_by (Z : Adr) : Sp := Sp3 (q_parted_by Z)
theorem cl_parted_by {Z : Adr} {a0 a1 a2 : V} {H : Hp} {Q : VK} {E : XK} (h : q_parted_by Z a0 a1 a2 H Q E) : sp_parted_by Z [a0, a1, a2] H Q E := ⟨a0, a1, a2, rfl, h⟩
def sp_of_numbers (Z : Adr) : Sp := Sp2 (q_of_numbers Z)
theorem cl_of_numbers {Z : Adr} {a0 a1 : V} {H : Hp} {Q : VK} {E : XK} (h : q_of_numbers Z a0 a1 H Q E) : sp_of_numbers Z [a0, a1] H Q E := ⟨a0, a1, rfl, h⟩
def sp_of_row (Z : Adr) : Sp := Sp3 (q_of_row Z)
theorem cl_of_row {Z : Adr} {a0 a1 a2 : V} {H : Hp} {Q : VK} {E : XK} (h : q_of_row Z a0 a1 a2 H Q E) : sp_of_row Z [a0, a1, a2] H Q E := ⟨a0, a1, a2, rfl, h⟩
def sp_worth (Z : Adr) : Sp := Sp3 (q_worth Z)
theorem cl_worth {Z : Adr} {a0 a1 a2 : V} {H : Hp} {Q : VK} {E : XK} (h : q_worth Z a0 a1 a2 H Q E) : sp_worth Z [a0, a1, a2] H Q E := ⟨a0, a1, a2, rfl, h⟩
def sp_Lbegin (Z : Adr) : Sp := Sp1 (q_Lbegin Z)
theorem cl_Lbegin {Z : Adr} {a0 : V} {H : Hp} {Q : VK} {E : XK} (h : q_Lbegin Z a0 H Q E) : sp_Lbegin Z [a0] H Q E := ⟨a0, rfl, h⟩
def sp_Lmixed (Z : Adr) : Sp := Sp2 (q_Lmixed Z)
theorem cl_Lmixed {Z : Adr} {a0 a1 : V} {H : Hp} {Q : VK} {E : XK} (h : q_Lmixed Z a0 a1 H Q E) : sp_Lmixed Z [a0, a1] H Q E := ⟨a0, a1, rfl, h⟩
def sp_Ltake (Z : Adr) : Sp := Sp2 (q_Ltake Z)
theorem cl_Ltake {Z : Adr} {a0 a1 : V} {H : Hp} {Q : VK} {E : XK} (h : q_Ltake Z a0 a1 H Q E) : sp_Ltake Z [a0, a1] H Q E := ⟨a0, a1, rfl, h⟩
def sp_Lnumber (Z : Adr) : Sp := Sp1 (q_Lnumber Z)
theorem cl_Lnumber {Z : Adr} {a0 : V} {H : Hp} {Q : VK} {E : XK} (h : q_Lnumber Z a0 H Q E) : sp_Lnumber Z [a0] H Q E := ⟨a0, rfl, h⟩
def sp_Lcounted (Z : Adr) : Sp := Sp3 (q_Lcounted Z)
theorem cl_Lcounted {Z : Adr} {a0 a1 a2 : V} {H : Hp} {Q : VK} {E : XK} (h : q_Lcounted Z a0 a1 a2 H Q E) : sp_Lcounted Z [a0, a1, a2] H Q E := ⟨a0, a1, a2, rfl, h⟩
def sp_Ldeed (Z : Adr) : Sp := Sp3 (q_Ldeed Z)
theorem cl_Ldeed {Z : Adr} {a0 a1 a2 : V} {H : Hp} {Q : VK} {E : XK} (h : q_Ldeed Z a0 a1 a2 H Q E) : sp_Ldeed Z [a0, a1, a2] H Q E := ⟨a0, a1, a2, rfl, h⟩
def sp_Lrow_number (Z : Adr) : Sp := Sp2 (q_Lrow_number Z)
theorem cl_Lrow_number {Z : Adr} {a0 a1 : V} {H : Hp} {Q : VK} {E : XK} (h : q_Lrow_number Z a0 a1 H Q E) : sp_Lrow_number Z [a0, a1] H Q E := ⟨a0, a1, rfl, h⟩
def sp_Lplace (Z : Adr) : Sp := Sp3 (q_Lplace Z)
theorem cl_Lplace {Z : Adr} {a0 a1 a2 : V} {H : Hp} {Q : VK} {E : XK} (h : q_Lplace Z a0 a1 a2 H Q E) : sp_Lplace Z [a0, a1, a2] H Q E := ⟨a0, a1, a2, rfl, h⟩
def sp_law (Z : Adr) : Sp := Sp1 (q_law Z)
theorem cl_law {Z : Adr} {a0 : V} {H : Hp} {Q : VK} {E : XK} (h : q_law Z a0 H Q E) : sp_law Z [a0] H Q E := ⟨a0, rfl, h⟩
def t_summed (Z : Adr) (W : WX) : TS := (C8.tCut (tIfS (tTest (tOp (rEqU Z.K) (tVar 0) (tC (.int 8)))) (tAsg (tOp (rAddU Z.K) (tVar 1) (tVar 2)) (gName 3)) (tIfS (tTest (tOp (rEqU Z.K) (tVar 0) (tC (.int 9)))) (tAsg (tOp (rI0 fun i j => .int (i - j)) (tVar 1) (tVar 2)) (gName 3)) (tAsg (tOp rMul (tVar 1) (tVar 2)) (gName 3))))
    (tSeq (tIfS (tTest (tOp (rI0 fun i j => .bl (decide (j < i))) (tCB (rLen Z.K) (tCons (tCB rStrI (tCons (tCB rAbs (tCons (tVar 3) tNil)) tNil)) tNil)) (tC (.int 100)))) (tRet (tTup (tCons (tC (.str "great")) (tCons (tC (.int 0)) tNil)))) tNext)
    (tRet (tTup (tCons (tC .non) (tCons (tVar 3) tNil))))))
def t_parted_by (Z : Adr) (W : WX) : TS := (tSeq (tIfS (tTest (tOp (rEqU Z.K) (tVar 2) (tC (.int 0)))) (tRet (tTup (tCons (tC (.str "zero")) (tCons (tC (.int 0)) tNil)))) tNext)
    (tSeq (tIfS (tTest (tOp (rEqU Z.K) (tVar 0) (tC (.int 11)))) (tRet (tTup (tCons (tC .non) (tCons (tOp rFdv (tVar 1) (tVar 2)) tNil)))) tNext)
    (tRet (tTup (tCons (tC .non) (tCons (tOp rMod (tVar 1) (tVar 2)) tNil))))))
def t_of_numbers (Z : Adr) (W : WX) : TS := (tSeq (tAsg (tVar 1) (gUn Z.K 2 (gCons (gName 2) (gCons (gName 3) gNil))))
    (tSeq (tIfS (tTest (tOp (rIn Z.K false) (tVar 0) (tTup (tCons (tC (.int 8)) (tCons (tC (.int 9)) (tCons (tC (.int 10)) tNil)))))) (tRet (tCallS (sp_summed Z) (WE W) (tCons (tVar 0) (tCons (tVar 2) (tCons (tVar 3) tNil))))) tNext)
    (tSeq (tIfS (tTest (tOp (rIn Z.K false) (tVar 0) (tTup (tCons (tC (.int 11)) (tCons (tC (.int 12)) tNil))))) (tRet (tCallS (sp_parted_by Z) (WE W) (tCons (tVar 0) (tCons (tVar 2) (tCons (tVar 3) tNil))))) tNext)
    (tSeq (tIfS (tTest (tOp (rEqU Z.K) (tVar 0) (tC (.int 13)))) (tRet (tTup (tCons (tC .non) (tCons (tCB rInt1 (tCons (tOp (rI0 fun i j => .bl (decide (i < j))) (tVar 2) (tVar 3)) tNil)) tNil)))) tNext)
    (tRet (tTup (tCons (tC .non) (tCons (tCB rInt1 (tCons (tOp (rEqU Z.K) (tVar 2) (tVar 3)) tNil)) tNil))))))))
def t_of_row (Z : Adr) (W : WX) : TS := (tSeq (tIfS (tTest (tOp (rEqU Z.K) (tVar 0) (tC (.int 18)))) (tRet (tTup (tCons (tC .non) (tCons (tCB (rLen Z.K) (tCons (tVar 2) tNil)) tNil)))) tNext)
    (tSeq (tIfS (tTest (tOp (rEqU Z.K) (tVar 0) (tC (.int 15)))) (tSeq (tDrop (tBM Z.K "list" rAppend (tVar 2) (tCons (tOp (rIx Z.K) (tVar 1) (tC (.int 1))) tNil)))
    (tRet (tTup (tCons (tC .non) (tCons (tOp (rIx Z.K) (tVar 1) (tC (.int 1))) tNil))))) tNext)
    (tSeq (tIfS (tNot (tTest (tChain (rI0 fun i j => .bl (decide (i ≤ j))) (rI0 fun i j => .bl (decide (i < j))) (tC (.int 0)) (tOp (rIx Z.K) (tVar 1) (tC (.int 1))) (tCB (rLen Z.K) (tCons (tVar 2) tNil))))) (tRet (tTup (tCons (tC (.str "place")) (tCons (tC (.int 0)) tNil)))) tNext)
    (tSeq (tIfS (tTest (tOp (rEqU Z.K) (tVar 0) (tC (.int 16)))) (tRet (tTup (tCons (tC .non) (tCons (tOp (rIx Z.K) (tVar 2) (tOp (rIx Z.K) (tVar 1) (tC (.int 1)))) tNil)))) tNext)
    (tSeq (tAsg (tOp (rIx Z.K) (tVar 1) (tC (.int 2))) (gSub (tVar 2) (tOp (rIx Z.K) (tVar 1) (tC (.int 1))) rSetL))
    (tRet (tTup (tCons (tC .non) (tCons (tOp (rIx Z.K) (tVar 1) (tC (.int 2))) tNil)))))))))
def t_worth (Z : Adr) (W : WX) : TS := (tSeq (tIfS (tTest (tOp (rI0 fun i j => .bl (decide (i ≤ j))) (tVar 0) (tC (.int 14)))) (tRet (tCallS (sp_of_numbers Z) (WE W) (tCons (tVar 0) (tCons (tVar 1) tNil)))) tNext)
    (tSeq (tIfS (tTest (tOp (rI0 fun i j => .bl (decide (j < i))) (tVar 0) (tC (.int 18)))) (tSeq (tDrop (tBM Z.K "list" rAppend (tVar 2) (tCons (tLst tNil) tNil)))
    (tRet (tTup (tCons (tC .non) (tCons (tOp (rI0 fun i j => .int (i - j)) (tCB (rLen Z.K) (tCons (tVar 2) tNil)) (tC (.int 1))) tNil))))) tNext)
    (tSeq (tIfS (tNot (tTest (tChain (rI0 fun i j => .bl (decide (i ≤ j))) (rI0 fun i j => .bl (decide (i < j))) (tC (.int 0)) (tOp (rIx Z.K) (tVar 1) (tC (.int 0))) (tCB (rLen Z.K) (tCons (tVar 2) tNil))))) (tRet (tTup (tCons (tC (.str "row")) (tCons (tC (.int 0)) tNil)))) tNext)
    (tRet (tCallS (sp_of_row Z) (WE W) (tCons (tVar 0) (tCons (tVar 1) (tCons (tOp (rIx Z.K) (tVar 2) (tOp (rIx Z.K) (tVar 1) (tC (.int 0)))) tNil))))))))
def t_Lbegin (Z : Adr) (W : WX) : TS := (tRet (tDisp [((tC (.str "script")), (tVar 0)), ((tC (.str "at")), (tC (.int 0))), ((tC (.str "left")), (tC (.int 0)))]))
def t_Lmixed (Z : Adr) (W : WX) : TS := (tSeq (tAsg (tOp rMod (tOp rMul (tOp (rAddU Z.K) (tOp (rAddU Z.K) (tOp rMod (tVar 0) (tC (.int 2147483629))) (tOp rMul (tC (.int 40503)) (tVar 1))) (tC (.int 17))) (tC (.int 48271))) (tC (.int 2147483647))) (gName 2))
    (tSeq (tAsg (tOp rMod (tOp (rAddU Z.K) (tOp (rAddU Z.K) (tOp rMul (tVar 2) (tVar 2)) (tOp rMul (tC (.int 69621)) (tVar 2))) (tVar 1)) (tC (.int 2147483629))) (gName 3))
    (tRet (tOp rFdv (tOp rMod (tOp (rAddU Z.K) (tOp (rAddU Z.K) (tOp rMul (tVar 3) (tVar 3)) (tOp rMul (tC (.int 16807)) (tVar 3))) (tOp rMul (tC (.int 29)) (tVar 1))) (tC (.int 1073741789))) (tC (.int 3))))))
def t_Ltake (Z : Adr) (W : WX) : TS := (tSeq (tAsg (tDGet (tVar 0) (tC (.str "script"))) (gName 2))
    (tSeq (tAsg (tDGet (tVar 0) (tC (.str "at"))) (gName 3))
    (C8.tCut (tIfS (tTest (tOp (rEqU Z.K) (tDGet (tVar 0) (tC (.str "left"))) (tC (.int 0)))) (tSeq (sDPut (tVar 0) (tC (.str "at")) (tOp (rAddU Z.K) (tVar 3) (tC (.int 1))))
    (tSeq (tAsg (tC (.int 0)) (gName 4))
    (C8.tCut (tIfS (tTest (tOp (rI0 fun i j => .bl (decide (j < i))) (tCB (rLen Z.K) (tCons (tVar 2) tNil)) (tC (.int 0)))) (tAsg (tOp (rIx Z.K) (tVar 2) (tOp rMod (tVar 3) (tCB (rLen Z.K) (tCons (tVar 2) tNil)))) (gName 4)) tNext)
    (tSeq (tIfS (tOr (tTest (tOp (rI0 fun i j => .bl (decide (j ≤ i))) (tVar 3) (tCB (rLen Z.K) (tCons (tVar 2) tNil)))) (tTest (tOp (rI0 fun i j => .bl (decide (i < j))) (tCB rAbs (tCons (tVar 4) tNil)) (tC (.int 1000000000000000000))))) (tRet (tOp rMod (tCallS (sp_Lmixed Z) (WE W) (tCons (tVar 4) (tCons (tVar 3) tNil))) (tVar 1))) tNext)
    (sDPut (tVar 0) (tC (.str "left")) (tCB rAbs (tCons (tVar 4) tNil))))))) tNext)
    (tSeq (tAsg (tOp rMod (tDGet (tVar 0) (tC (.str "left"))) (tVar 1)) (gName 5))
    (tSeq (sDPut (tVar 0) (tC (.str "left")) (tOp rFdv (tDGet (tVar 0) (tC (.str "left"))) (tVar 1)))
    (tRet (tVar 5)))))))
def t_Lnumber (Z : Adr) (W : WX) : TS := (tSeq (tAsg (tCallS (sp_Ltake Z) (WE W) (tCons (tVar 0) (tCons (tC (.int 12)) tNil))) (gName 1))
    (tSeq (tIfS (tTest (tOp (rI0 fun i j => .bl (decide (i < j))) (tVar 1) (tC (.int 9)))) (tRet (tOp (rIx Z.K) (tLst (tCons (tC (.int 0)) (tCons (tC (.int 1)) (tCons (tC (.int 2)) (tCons (tC (.int 3)) (tCons (tUn (rU fun i => .int (-i)) (tC (.int 1))) (tCons (tC (.int 1)) (tCons (tC (.int 2)) (tCons (tC (.int 7)) (tCons (tUn (rU fun i => .int (-i)) (tC (.int 5))) tNil)))))))))) (tVar 1))) tNext)
    (tSeq (tIfS (tTest (tOp (rEqU Z.K) (tVar 1) (tC (.int 9)))) (tRet (tOp (rI0 fun i j => .int (i - j)) (tCallS (sp_Ltake Z) (WE W) (tCons (tVar 0) (tCons (tC (.int 2000)) tNil))) (tC (.int 1000)))) tNext)
    (tSeq (tAsg (tOp (rIx Z.K) (tLst (tCons (tC (.int 100000000000000000000000000000000000000000000000000000000000)) (tCons (tOp (rI0 fun i j => .int (i - j)) (tC (.int 1000000000000000000000000000000000000000000000000000000000000)) (tC (.int 1))) (tCons (tC (.int 100000000000000000000000000000000000000000000000000)) (tCons (tC (.int 10000000000000000000000000000000000000000000000000)) tNil))))) (tCallS (sp_Ltake Z) (WE W) (tCons (tVar 0) (tCons (tC (.int 4)) tNil)))) (gName 2))
    (tRet (tOp (rI0 fun i j => .int (i - j)) (tOp rMul (tVar 2) (tOp (rIx Z.K) (tLst (tCons (tC (.int 1)) (tCons (tUn (rU fun i => .int (-i)) (tC (.int 1))) tNil))) (tOp (rI0 fun i j => .int (i - j)) (tVar 1) (tC (.int 10))))) (tOp rMul (tCallS (sp_Ltake Z) (WE W) (tCons (tVar 0) (tCons (tC (.int 2)) tNil))) (tOp (rIx Z.K) (tLst (tCons (tC (.int 1)) (tCons (tUn (rU fun i => .int (-i)) (tC (.int 1))) tNil))) (tOp (rI0 fun i j => .int (i - j)) (tVar 1) (tC (.int 10)))))))))))
def t_Lcounted (Z : Adr) (W : WX) : TS := (tSeq (tIfS (tAnd (tTest (tOp (rIn Z.K false) (tVar 0) (tTup (tCons (tC (.int 11)) (tCons (tC (.int 12)) tNil))))) (tTest (tOp (rEqU Z.K) (tVar 2) (tC (.int 0))))) (tRet (tC (.str "zero"))) tNext)
    (tSeq (tIfS (tTest (tOp (rI0 fun i j => .bl (decide (i < j))) (tVar 0) (tC (.int 11)))) (tSeq (tAsg (tOp (rIx Z.K) (tLst (tCons (tOp (rAddU Z.K) (tVar 1) (tVar 2)) (tCons (tOp (rI0 fun i j => .int (i - j)) (tVar 1) (tVar 2)) (tCons (tOp rMul (tVar 1) (tVar 2)) tNil)))) (tOp (rI0 fun i j => .int (i - j)) (tVar 0) (tC (.int 8)))) (gName 3))
    (tSeq (tIfS (tTest (tOp (rI0 fun i j => .bl (decide (j ≤ i))) (tCB rAbs (tCons (tVar 3) tNil)) (tOp rMul (tC (.int 100000000000000000000000000000000000000000000000000)) (tC (.int 100000000000000000000000000000000000000000000000000))))) (tRet (tC (.str "great"))) tNext)
    (tRet (tVar 3)))) tNext)
    (tSeq (tIfS (tTest (tOp (rEqU Z.K) (tVar 0) (tC (.int 11)))) (tRet (tOp rFdv (tVar 1) (tVar 2))) tNext)
    (tSeq (tIfS (tTest (tOp (rEqU Z.K) (tVar 0) (tC (.int 12)))) (tRet (tOp (rI0 fun i j => .int (i - j)) (tVar 1) (tOp rMul (tVar 2) (tOp rFdv (tVar 1) (tVar 2))))) tNext)
    (tRet (tOp (rIx Z.K) (tLst (tCons (tCB rInt1 (tCons (tOp (rI0 fun i j => .bl (decide (i < j))) (tVar 1) (tVar 2)) tNil)) (tCons (tCB rInt1 (tCons (tOp (rEqU Z.K) (tVar 1) (tVar 2)) tNil)) tNil))) (tOp (rI0 fun i j => .int (i - j)) (tVar 0) (tC (.int 13)))))))))
def t_Ldeed (Z : Adr) (W : WX) : TS := (tSeq (tIfS (tTest (tOp (rI0 fun i j => .bl (decide (i < j))) (tVar 0) (tC (.int 15)))) (tRet (tCallS (sp_Lcounted Z) (WE W) (tCons (tVar 0) (tCons (tOp (rIx Z.K) (tVar 1) (tC (.int 0))) (tCons (tOp (rIx Z.K) (tVar 1) (tC (.int 1))) tNil))))) tNext)
    (tSeq (tIfS (tTest (tOp (rEqU Z.K) (tVar 0) (tC (.int 19)))) (tSeq (tDrop (tBM Z.K "list" rAppend (tVar 2) (tCons (tLst tNil) tNil)))
    (tRet (tOp (rI0 fun i j => .int (i - j)) (tCB (rLen Z.K) (tCons (tVar 2) tNil)) (tC (.int 1))))) tNext)
    (tSeq (tIfS (tOr (tTest (tOp (rI0 fun i j => .bl (decide (i < j))) (tOp (rIx Z.K) (tVar 1) (tC (.int 0))) (tC (.int 0)))) (tTest (tOp (rI0 fun i j => .bl (decide (j ≤ i))) (tOp (rIx Z.K) (tVar 1) (tC (.int 0))) (tCB (rLen Z.K) (tCons (tVar 2) tNil))))) (tRet (tC (.str "row"))) tNext)
    (tSeq (tAsg (tOp (rIx Z.K) (tVar 2) (tOp (rIx Z.K) (tVar 1) (tC (.int 0)))) (gName 3))
    (tSeq (tIfS (tTest (tOp (rEqU Z.K) (tVar 0) (tC (.int 18)))) (tRet (tCB (rLen Z.K) (tCons (tVar 3) tNil))) tNext)
    (tSeq (tIfS (tTest (tOp (rEqU Z.K) (tVar 0) (tC (.int 15)))) (tSeq (tDrop (tBM Z.K "list" rAppend (tVar 3) (tCons (tOp (rIx Z.K) (tVar 1) (tC (.int 1))) tNil)))
    (tRet (tOp (rIx Z.K) (tVar 1) (tC (.int 1))))) tNext)
    (tSeq (tIfS (tOr (tTest (tOp (rI0 fun i j => .bl (decide (i < j))) (tOp (rIx Z.K) (tVar 1) (tC (.int 1))) (tC (.int 0)))) (tTest (tOp (rI0 fun i j => .bl (decide (j ≤ i))) (tOp (rIx Z.K) (tVar 1) (tC (.int 1))) (tCB (rLen Z.K) (tCons (tVar 3) tNil))))) (tRet (tC (.str "place"))) tNext)
    (C8.tCut (tIfS (tTest (tOp (rEqU Z.K) (tVar 0) (tC (.int 17)))) (tAsg (tOp (rIx Z.K) (tVar 1) (tC (.int 2))) (gSub (tVar 3) (tOp (rIx Z.K) (tVar 1) (tC (.int 1))) rSetL)) tNext)
    (tRet (tOp (rIx Z.K) (tVar 3) (tOp (rIx Z.K) (tVar 1) (tC (.int 1)))))))))))))
def t_Lrow_number (Z : Adr) (W : WX) : TS := (tSeq (tIfS (tTest (tOp (rEqU Z.K) (tCallS (sp_Ltake Z) (WE W) (tCons (tVar 0) (tCons (tC (.int 4)) tNil))) (tC (.int 0)))) (tRet (tOp (rIx Z.K) (tLst (tCons (tUn (rU fun i => .int (-i)) (tC (.int 1))) (tCons (tCB (rLen Z.K) (tCons (tVar 1) tNil)) (tCons (tC (.int 100000000000000000000000000000000000000000000000000000000000)) (tCons (tOp (rI0 fun i j => .int (i - j)) (tC (.int 0)) (tCB (rLen Z.K) (tCons (tVar 1) tNil))) tNil))))) (tCallS (sp_Ltake Z) (WE W) (tCons (tVar 0) (tCons (tC (.int 4)) tNil))))) tNext)
    (tRet (tCallS (sp_Ltake Z) (WE W) (tCons (tVar 0) (tCons (tCB (rLen Z.K) (tCons (tVar 1) tNil)) tNil)))))
def t_Lplace (Z : Adr) (W : WX) : TS := (tSeq (tAsg (tC (.int 0)) (gName 3))
    (C8.tCut (tIfS (tTest (tChain (rI0 fun i j => .bl (decide (i ≤ j))) (rI0 fun i j => .bl (decide (i < j))) (tC (.int 0)) (tVar 2) (tCB (rLen Z.K) (tCons (tVar 1) tNil)))) (tAsg (tCB (rLen Z.K) (tCons (tOp (rIx Z.K) (tVar 1) (tVar 2)) tNil)) (gName 3)) tNext)
    (tSeq (tAsg (tCallS (sp_Ltake Z) (WE W) (tCons (tVar 0) (tCons (tC (.int 6)) tNil))) (gName 4))
    (tSeq (tIfS (tAnd (tTest (tOp (rI0 fun i j => .bl (decide (i < j))) (tVar 4) (tC (.int 4)))) (tTest (tOp (rI0 fun i j => .bl (decide (j < i))) (tVar 3) (tC (.int 0))))) (tRet (tCallS (sp_Ltake Z) (WE W) (tCons (tVar 0) (tCons (tVar 3) tNil)))) tNext)
    (tRet (tOp (rIx Z.K) (tLst (tCons (tUn (rU fun i => .int (-i)) (tC (.int 1))) (tCons (tVar 3) (tCons (tOp (rAddU Z.K) (tVar 3) (tC (.int 1))) (tCons (tC (.int 100000000000000000000000000000000000000000000000000000000000)) (tCons (tOp (rI0 fun i j => .int (i - j)) (tC (.int 0)) (tVar 3)) (tCons (tC (.int 0)) tNil))))))) (tVar 4)))))))
def t_law (Z : Adr) (W : WX) : TS := (tSeq (tAsg (tCallS (sp_Lbegin Z) (WE W) (tCons (tVar 0) tNil)) (gName 1))
    (tSeq (tAsg (tLst tNil) (gName 2))
    (tSeq (tFor (iRng1 (tCons (tOp (rAddU Z.K) (tC (.int 2)) (tCallS (sp_Ltake Z) (WE W) (tCons (tVar 1) (tCons (tC (.int 4)) tNil)))) tNil)) (gName 3) (tDrop (tBM Z.K "list" rAppend (tVar 2) (tCons (tLc (iRng1 (tCons (tCallS (sp_Ltake Z) (WE W) (tCons (tVar 1) (tCons (tC (.int 5)) tNil))) tNil)) (gName 12) tYes (tCallS (sp_Lnumber Z) (WE fun _ _ _ _ => False) (tCons (tVar 1) tNil)) [11, 12]) tNil))))
    (tSeq (tAsg (tLc (iList Z.K (tVar 2)) (gName 13) tYes (tCB (rListOf Z.K) (tCons (tVar 13) tNil)) [11, 13]) (gName 4))
    (tSeq (tFor (iRng1 (tCons (tCallS (sp_Ltake Z) (WE W) (tCons (tVar 1) (tCons (tC (.int 17)) tNil))) tNil)) (gName 3) (tSeq (tAsg (tOp (rIx Z.K) (tLst (tCons (tC (.int 15)) (tCons (tC (.int 16)) (tCons (tC (.int 17)) (tCons (tC (.int 18)) (tCons (tC (.int 19)) (tCons (tC (.int 15)) (tCons (tC (.int 17)) tNil)))))))) (tCallS (sp_Ltake Z) (WE W) (tCons (tVar 1) (tCons (tC (.int 7)) tNil)))) (gName 5))
    (tSeq (tAsg (tCallS (sp_Lrow_number Z) (WE W) (tCons (tVar 1) (tCons (tVar 2) tNil))) (gName 6))
    (tSeq (tAsg (tOp (rIx Z.K) (tLst (tCons (tLst (tCons (tVar 6) (tCons (tCallS (sp_Lnumber Z) (WE W) (tCons (tVar 1) tNil)) tNil))) (tCons (tLst (tCons (tVar 6) (tCons (tCallS (sp_Lplace Z) (WE W) (tCons (tVar 1) (tCons (tVar 4) (tCons (tVar 6) tNil)))) tNil))) (tCons (tLst tNil) (tCons (tLst (tCons (tVar 6) tNil)) (tCons (tLst tNil) tNil)))))) (tOp (rI0 fun i j => .int (i - j)) (tVar 5) (tC (.int 15)))) (gName 7))
    (C8.tCut (tIfS (tTest (tOp (rEqU Z.K) (tVar 5) (tC (.int 17)))) (tAsg (tLst (tCons (tVar 6) (tCons (tCallS (sp_Lplace Z) (WE W) (tCons (tVar 1) (tCons (tVar 4) (tCons (tVar 6) tNil)))) (tCons (tCallS (sp_Lnumber Z) (WE W) (tCons (tVar 1) tNil)) tNil)))) (gName 7)) tNext)
    (tSeq (tAsg (tCallS (sp_Ldeed Z) (WE W) (tCons (tVar 5) (tCons (tVar 7) (tCons (tVar 4) tNil)))) (gName 8))
    (C8.tCut (tIfS (tB (tCB (rIsi2 Z.K) (tCons (tVar 8) (tCons (tC (.ty "str")) tNil)))) (tAsg (tTup (tCons (tVar 8) (tCons (tC (.int 0)) tNil))) (gName 8)) (tAsg (tTup (tCons (tC .non) (tCons (tVar 8) tNil))) (gName 8)))
    (tSeq (tAsg (tCB (rListOf Z.K) (tCons (tVar 7) tNil)) (gName 9))
    (tSeq (tAsg (tCallS (sp_worth Z) (WE W) (tCons (tVar 5) (tCons (tVar 9) (tCons (tVar 2) tNil)))) (gName 10))
    (tSeq (tIfS (tOr (tNot (tB (tCB (rIsi2 Z.K) (tCons (tVar 10) (tCons (tC (.ty "tuple")) tNil))))) (tOr (tB (tCB (rIsi2 Z.K) (tCons (tOp (rIx Z.K) (tVar 10) (tC (.int 1))) (tCons (tC (.ty "bool")) tNil)))) (tOr (tTest (tOp (rNeU Z.K) (tVar 10) (tVar 8))) (tTest (tOp (rNeU Z.K) (tVar 9) (tVar 7)))))) (tRet (tC (.bl false))) tNext)
    (tIfS (tTest (tOp (rNeU Z.K) (tVar 2) (tVar 4))) (tRet (tC (.bl false))) tNext)))))))))))
    (tRet (tOp (rEqU Z.K) (tVar 2) (tVar 4))))))))
end My
namespace My
open PySem L2 Z
theorem rd_summed {Z : Adr} (T : Top Z) {a0 a1 a2 : V} {H : Hp} {Q : VK} {E : XK} (h : q_summed Z a0 a1 a2 H Q E) : t_summed Z (fun cls d _ H => E cls d H) ⟨fun _ H' => Q .non H', Q, fun _ _ => False, fun _ _ => False⟩ [some a0, some a1, some a2, none] H := by
  unfold t_summed
  obtain ⟨i, a, b, rfl, rfl, rfl, ha, hb, q⟩ := h
  have fin : ∀ (z : Int) (t : Addr), H t = none → z = (if i = 8 then a + b else if i = 9 then a - b else a * b) → (if z.natAbs < 10 ^ 100 then Q (.ref t) (upd H t (.tup [.non, .int z])) else Q (.ref t) (upd H t (.tup [.str "great", .int 0]))) := by
    intro z t ht e
    have := q t ht
    unfold sumW at this
    rw [← e] at this
    split
    · rename_i c
      rw [if_pos c] at this
      exact this
    · rename_i c
      rw [if_neg c] at this
      exact this
  have hlog : ∀ z : Int, z = (if i = 8 then a + b else if i = 9 then a - b else a * b) → (if z < 0 then -z else z).natAbs.log2 < 1920 := by
    intro z e
    have h1 : z.natAbs < 2 ^ 800 := by
      have p : (10 : Nat) ^ 100 ≤ 2 ^ 399 := by decide +kernel
      have p2 : (10 : Nat) ^ 100 * 10 ^ 100 ≤ 2 ^ 799 := by decide +kernel
      unfold Fig at ha hb
      have m : (a * b).natAbs < 10 ^ 100 * 10 ^ 100 := by
        rw [Int.natAbs_mul]
        exact Nat.mul_lt_mul'' ha hb
      have p3 : (2 : Nat) ^ 800 = 2 ^ 799 + 2 ^ 799 := by decide +kernel
      have p4 : (2 : Nat) ^ 399 ≤ 2 ^ 799 := by decide +kernel
      generalize (10 : Nat) ^ 100 * 10 ^ 100 = M at *
      generalize (10 : Nat) ^ 100 = L at *
      generalize (2 : Nat) ^ 800 = B8 at *
      generalize (2 : Nat) ^ 799 = B7 at *
      generalize (2 : Nat) ^ 399 = B3 at *
      generalize a * b = ab at *
      split at e
      · omega
      · split at e <;> omega
    have e2 : (if z < 0 then -z else z).natAbs = z.natAbs := by split <;> omega
    rw [e2]
    exact Nat.lt_of_lt_of_le (PySem.Flt.log2_lt_of (k := 800) (by decide) h1) (by decide)
  walk_at "zz"
  refine s_cut (fun σ' H' => H' = H ∧ ∃ z, z = (if i = 8 then a + b else if i = 9 then a - b else a * b) ∧ σ' = [some (.int i), some (.int a), some (.int b), some (.int z)]) ?_ ?_
  · walk_at "zz"
    refine s_ifd (fun c => ?_) (fun c => ?_)
    · walk_at "zz"
      exact ⟨rfl, _, by rw [if_pos c], rfl⟩
    · walk_at "zz"
      refine s_ifd (fun c2 => ?_) (fun c2 => ?_)
      · walk_at "zz"
        exact ⟨rfl, _, by rw [if_neg c, if_pos c2], rfl⟩
      · walk_at "zz"
        refine s_mul (.inr (fig_mul ha hb)) ?_
        walk_at "zz"
        exact ⟨rfl, _, by rw [if_neg c, if_neg c2], rfl⟩
  · rintro σ' H' ⟨rfl, z, e, rfl⟩
    walk_at "zz"
    refine s_strI (hlog z e) ?_
    walk_at "zz"
    refine s_len_s (int_text_fits (hlog z e)) ?_
    have dg := len_digits z
    walk_at "zz"
    refine s_ifd (fun c => ?_) (fun c => ?_)
    · walk_at "zz"
      intro t ht
      have := fin z t ht e
      rw [if_neg (fun c2 => by have := dg.mpr c2; omega)] at this
      exact this
    · walk_at "zz"
      intro t ht
      have := fin z t ht e
      rw [if_pos (dg.mp (by omega))] at this
      exact this

theorem rd_parted_by {Z : Adr} (T : Top Z) {a0 a1 a2 : V} {H : Hp} {Q : VK} {E : XK} (h : q_parted_by Z a0 a1 a2 H Q E) : t_parted_by Z (fun cls d _ H => E cls d H) ⟨fun _ H' => Q .non H', Q, fun _ _ => False, fun _ _ => False⟩ [some a0, some a1, some a2] H := by
  unfold t_parted_by
  obtain ⟨i, a, b, rfl, rfl, rfl, ha, hb, q⟩ := h
  unfold quoW at q
  walk_at "zz"
  refine s_ifd (fun c => ?_) (fun c => ?_)
  · walk_at "zz"
    rw [if_pos c] at q
    exact q
  · have hl : b ≠ 0 ∧ b.natAbs.log2 < 9000 := ⟨c, Nat.lt_trans (fig_log hb) (by decide)⟩
    walk_at "zz"
    rw [if_neg c] at q
    refine s_ifd (fun c2 => ?_) (fun c2 => ?_)
    · rw [if_pos c2] at q
      walk_at "zz"
      refine s_fdv hl ?_
      walk_at "zz"
      exact q
    · rw [if_neg c2] at q
      walk_at "zz"
      refine s_mod c ?_
      walk_at "zz"
      exact q

theorem rd_of_numbers {Z : Adr} (T : Top Z) {a0 a1 : V} {H : Hp} {Q : VK} {E : XK} (h : q_of_numbers Z a0 a1 H Q E) : t_of_numbers Z (fun cls d _ H => E cls d H) ⟨fun _ H' => Q .non H', Q, fun _ _ => False, fun _ _ => False⟩ [some a0, some a1, none, none] H := by
  unfold t_of_numbers
  obtain ⟨i, a, b, lv, rfl, rfl, hl, ha, hb, q⟩ := h
  unfold numW at q
  walk_at "zz"
  intro t0 h0
  walk_at "zz"
  refine s_in_t (SqT.of upd_same) rfl rfl ?_
  walk_at "zz"
  have S0 : Same H (upd H t0 (.tup [.int 8, .int 9, .int 10])) := same_new h0
  refine s_ifk (fun c => ?_) (fun c => ?_)
  · have c' : i = 8 ∨ i = 9 ∨ i = 10 := by simp [inV, eqV] at c; omega
    rw [if_pos c'] at q
    walk_at "zz"
    refine cl_summed ⟨i, a, b, rfl, rfl, rfl, ha, hb, fun t ht => ?_⟩
    exact q t _ (S0.trans (same_new ht)) (S0.free ht) upd_same
  · have c' : ¬ (i = 8 ∨ i = 9 ∨ i = 10) := by simp [inV, eqV] at c; omega
    rw [if_neg c'] at q
    walk_at "zz"
    intro t1 h1
    have S1 : Same H (upd (upd H t0 (.tup [.int 8, .int 9, .int 10])) t1 (.tup [.int 11, .int 12])) := S0.trans (same_new h1)
    walk_at "zz"
    refine s_in_t (SqT.of upd_same) rfl rfl ?_
    walk_at "zz"
    refine s_ifk (fun c2 => ?_) (fun c2 => ?_)
    · have c2' : i = 11 ∨ i = 12 := by simp [inV, eqV] at c2; omega
      rw [if_pos c2'] at q
      walk_at "zz"
      refine cl_parted_by ⟨i, a, b, rfl, rfl, rfl, ha, hb, fun t ht => ?_⟩
      exact q t _ (S1.trans (same_new ht)) (S1.free ht) upd_same
    · have c2' : ¬ (i = 11 ∨ i = 12) := by simp [inV, eqV] at c2; omega
      rw [if_neg c2'] at q
      walk_at "zz"
      refine s_ifd (fun c3 => ?_) (fun c3 => ?_)
      · rw [if_pos c3] at q
        walk_at "zz"
        intro t ht
        refine q t _ (S1.trans (same_new ht)) (S1.free ht) ?_
        rw [upd_same]
        unfold Wo.vs
        by_cases ab : a < b <;> simp [ab]
      · rw [if_neg c3] at q
        walk_at "zz"
        intro t ht
        refine q t _ (S1.trans (same_new ht)) (S1.free ht) ?_
        rw [upd_same]
        unfold Wo.vs
        by_cases ab : a = b <;> simp [ab]

theorem rd_of_row {Z : Adr} (T : Top Z) {a0 a1 a2 : V} {H : Hp} {Q : VK} {E : XK} (h : q_of_row Z a0 a1 a2 H Q E) : t_of_row Z (fun cls d _ H => E cls d H) ⟨fun _ H' => Q .non H', Q, fun _ _ => False, fun _ _ => False⟩ [some a0, some a1, some a2] H := by
  unfold t_of_row
  obtain ⟨i, lv, a, vs, c, rfl, rfl, rfl, h15, h18, hn, nva, hl, ha, hc, q⟩ := h
  have at1 : i ≠ 18 → atI (vs.map V.int) 1 = some (.int (vs.getD 1 0)) := fun h => by
    have hpos : 1 < vs.length := by rw [hn]; unfold partsN; split <;> (try split) <;> (try split) <;> omega
    exact at_of (j := 1) rfl (by match vs, hpos with | _ :: _ :: _, _ => rfl)
  have at2 : i = 17 → atI (vs.map V.int) 2 = some (.int (vs.getD 2 0)) := fun h => by
    have hpos : 2 < vs.length := by rw [hn, h]; decide
    exact at_of (j := 2) rfl (by match vs, hpos with | _ :: _ :: _ :: _, _ => rfl)
  unfold rowW at q
  walk_at "zz"
  refine s_ifd (fun c1 => ?_) (fun c1 => ?_)
  · rw [if_pos c1] at q
    walk_at "zz"
    intro t ht
    rw [List.length_map]
    exact q t _ (But.of (same_new ht)) (up_new ht ha) ht upd_same
  · rw [if_neg c1] at q
    walk_at "zz"
    refine s_ifd (fun c2 => ?_) (fun c2 => ?_)
    · rw [if_pos c2] at q
      walk_at "zz"
      refine s_ix_l (SqL.of hl) (at1 c1) ?_
      walk_at "zz"
      refine c_append ha (Nat.lt_of_lt_of_le (by rw [List.length_map]; exact hc) (by decide)) fun H1 B1 h1 => ?_
      have hl1 := B1.rd nva hl
      walk_at "zz"
      refine s_ix_l (SqL.of hl1) (at1 c1) ?_
      walk_at "zz"
      intro t ht
      refine q t _ (B1.new ht) (up_new ht (by rw [h1, List.map_append]; rfl)) ?_ upd_same
      cases e : H t with
      | none => rfl
      | some o =>
        by_cases z : t = a
        · subst z; rw [h1] at ht; cases ht
        · rw [B1.rd z e] at ht; cases ht
    · rw [if_neg c2] at q
      walk_at "zz"
      refine s_ix_l (SqL.of hl) (at1 c1) ?_
      walk_at "zz"
      have bad : ¬ (0 ≤ vs.getD 1 0 ∧ vs.getD 1 0 < c.length) → ∀ t, H t = none → Q (.ref t) (upd H t (.tup [.str "place", .int 0])) := fun hb t ht => by
        rw [if_neg hb] at q
        exact q t _ (But.of (same_new ht)) (up_new ht ha) ht upd_same
      refine s_ifd (fun c3 => ?_) (fun c3 => ?_)
      · walk_at "zz"
        rw [List.length_map]
        generalize hv : vs.getD 1 0 = v at *
        refine s_ifnn (fun c4 => ?_) (fun c4 => ?_)
        · walk_at "zz"
          exact bad (fun z => c4 z.2)
        · rw [if_pos ⟨c3, c4⟩] at q
          have hx : atI (c.map V.int) v = some (.int (c.getD v.toNat 0)) := by
            refine at_of (j := v.toNat) (by omega) ?_
            rw [List.getElem?_map, List.getD_eq_getElem?_getD, List.getElem?_eq_getElem (by omega)]
            rfl
          walk_at "zz"
          refine s_ifd (fun c5 => ?_) (fun c5 => ?_)
          · rw [if_pos c5] at q
            walk_at "zz"
            refine s_ix_l (SqL.of hl) (at1 c1) ?_
            refine s_ix_l (SqL.of ha) hx ?_
            walk_at "zz"
            intro t ht
            exact q t _ (But.of (same_new ht)) (up_new ht ha) ht upd_same
          · rw [if_neg c5] at q
            have e17 : i = 17 := by omega
            walk_at "zz"
            refine s_ix_l (SqL.of hl) (at2 e17) ?_
            walk_at "zz"
            refine s_ix_l (SqL.of hl) (at1 c1) ?_
            refine c_setL v.toNat ((c.set v.toNat (vs.getD 2 0)).map V.int) ha (by unfold ixN; rw [if_pos c3, if_pos (by rw [List.length_map]; exact c4)]) (by rw [List.map_set]) fun H1 B1 h1 => ?_
            have hl1 := B1.rd nva hl
            walk_at "zz"
            refine s_ix_l (SqL.of hl1) (at2 e17) ?_
            walk_at "zz"
            intro t ht
            refine q t _ (B1.new ht) (up_new ht h1) ?_ upd_same
            cases e : H t with
            | none => rfl
            | some o =>
              by_cases z : t = a
              · subst z; rw [h1] at ht; cases ht
              · rw [B1.rd z e] at ht; cases ht
      · walk_at "zz"
        exact bad (fun z => c3 z.1)

theorem rd_worth {Z : Adr} (T : Top Z) {a0 a1 a2 : V} {H : Hp} {Q : VK} {E : XK} (h : q_worth Z a0 a1 a2 H Q E) : t_worth Z (fun cls d _ H => E cls d H) ⟨fun _ H' => Q .non H', Q, fun _ _ => False, fun _ _ => False⟩ [some a0, some a1, some a2] H := by
  unfold t_worth
  rcases h with ⟨i, a, b, lv, rfl, rfl, h8, h14, hl, ha, hb, q⟩ | ⟨i, lv, lr, vs, as, cs, rfl, rfl, rfl, h15, h19, hn, hl, hA, nv, nlr, hc, hcs, q⟩
  · walk_at "zz"
    refine s_ifd (fun c => ?_) (fun c => by omega)
    walk_at "zz"
    exact cl_of_numbers ⟨i, a, b, lv, rfl, rfl, hl, ha, hb, q⟩
  · walk_at "zz"
    refine s_ifd (fun c => by omega) (fun c => ?_)
    walk_at "zz"
    have hlen : (as.map V.ref).length = cs.length := by rw [List.length_map]; exact hA.len
    have htop := hA.top
    unfold rowsW at q
    refine s_ifd (fun c2 => ?_) (fun c2 => ?_)
    · have e19 : i = 19 := by omega
      rw [if_pos e19] at q
      walk_at "zz"
      intro l hl2
      walk_at "zz"
      refine c_append (up_new hl2 hA.top) (Nat.lt_of_lt_of_le (by omega : _ < 10000000) (by decide)) fun H1 B1 h1 => ?_
      walk_at "zz"
      have nl : l ∉ as := fun z => by
        obtain ⟨j, hj⟩ := List.mem_iff_getElem?.mp z
        obtain ⟨c, _, e⟩ := hA.row j l hj
        rw [hl2] at e; cases e
      have nll : l ≠ lr := (ne_of_none hA.top hl2).symm
      have hA1 : HeapAt H1 lr (as ++ [l]) (cs ++ [[]]) := by
        refine ⟨by rw [h1, List.map_append]; rfl, fun j a hj => ?_, by rw [List.length_append, List.length_append, hA.len]; rfl, ?_, ?_⟩
        · by_cases hjl : j < as.length
          · rw [List.getElem?_append_left hjl] at hj
            obtain ⟨c, e1, e2⟩ := hA.row j a hj
            exact ⟨c, by rw [List.getElem?_append_left (by rw [← hA.len]; exact hjl)]; exact e1, B1 _ _ (.inl fun z => hA.ne (z ▸ List.mem_of_getElem? hj)) (up_new hl2 e2)⟩
          · rw [List.getElem?_append_right (by omega)] at hj
            have hj0 : j - as.length = 0 := by
              have := (List.getElem?_eq_some_iff.mp hj).1
              simp only [List.length_singleton] at this
              omega
            rw [hj0] at hj
            cases hj
            refine ⟨[], by rw [List.getElem?_append_right (by rw [← hA.len]; omega), ← hA.len, hj0]; rfl, B1 _ _ (.inl nll) upd_same⟩
        · rw [List.nodup_append]
          exact ⟨hA.nd, by simp, fun a ha b hb => by cases List.mem_singleton.mp hb; intro z; subst z; exact nl ha⟩
        · intro z
          rcases List.mem_append.mp z with z | z
          · exact hA.ne z
          · exact nll (List.mem_singleton.mp z).symm
      have BB : ∀ b o, ((b ≠ lr ∧ b ∉ as) ∨ Fz o) → H b = some o → H1 b = some o := fun b o n e => B1 b o (n.imp (fun z => z.1) id) (up_new hl2 e)
      have e5 : ((as.map V.ref ++ [V.ref l]).length : Int) - 1 = cs.length := by rw [List.length_append, hlen]; simp
      intro t ht
      rw [e5]
      have B1t : ∀ b o, ((b ≠ lr ∧ b ∉ as) ∨ Fz o) → H b = some o → upd H1 t (.tup [.non, .int (cs.length : Int)]) b = some o := fun b o n e => up_new ht (BB b o n e)
      refine q t (as ++ [l]) _ B1t ⟨up_new ht hA1.top, fun j a hj => ?_, hA1.len, hA1.nd, hA1.ne⟩ ?_ ?_ ?_ ?_
      · obtain ⟨c, e1, e2⟩ := hA1.row j a hj
        exact ⟨c, e1, up_new ht e2⟩
      · intro n hn
        rcases List.mem_append.mp hn with z | z
        · exact .inl z
        · exact .inr (by rw [List.mem_singleton.mp z]; exact hl2)
      · cases e : H t with
        | none => rfl
        | some o =>
          by_cases et : t = lr
          · subst et; rw [hA1.top] at ht; cases ht
          · by_cases em : t ∈ as
            · obtain ⟨j, hj⟩ := List.mem_iff_getElem?.mp em
              obtain ⟨c, _, e'⟩ := hA1.row j t (by rw [List.getElem?_append_left (List.getElem?_eq_some_iff.mp hj).1]; exact hj)
              rw [ht] at e'; cases e'
            · rw [BB t o (.inl ⟨et, em⟩) e] at ht; cases ht
      · intro z
        obtain ⟨j, hj⟩ := List.mem_iff_getElem?.mp z
        obtain ⟨c, _, e'⟩ := hA1.row j t hj
        rw [ht] at e'; cases e'
      · exact upd_same
    · have e19 : i ≠ 19 := by omega
      rw [if_neg e19] at q
      have hpos : 0 < vs.length := by rw [hn]; unfold partsN; split <;> (try split) <;> (try split) <;> omega
      have hv0 : atI (vs.map V.int) 0 = some (.int (vs.getD 0 0)) := at_of (j := 0) rfl (by cases vs with | nil => simp at hpos | cons a r => rfl)
      walk_at "zz"
      refine s_ix_l (SqL.of hl) hv0 ?_
      walk_at "zz"
      have lenr : (as.map V.ref).length = cs.length := by rw [List.length_map]; exact hA.len
      generalize hv : vs.getD 0 0 = v at *
      have bad : ¬ (0 ≤ v ∧ v < cs.length) → ∀ t, H t = none → Q (.ref t) (upd H t (.tup [.str "row", .int 0])) := fun hb t ht => by
        rw [if_neg hb] at q
        refine q t as _ (fun b o _ e => up_new ht e) ⟨up_new ht hA.top, fun j a hj => ?_, hA.len, hA.nd, hA.ne⟩ (fun n hn => .inl hn) ht ?_ upd_same
        · obtain ⟨c, e1, e2⟩ := hA.row j a hj
          exact ⟨c, e1, up_new ht e2⟩
        · intro z
          obtain ⟨j, hj⟩ := List.mem_iff_getElem?.mp z
          obtain ⟨c, _, e⟩ := hA.row j t hj
          rw [ht] at e; cases e
      refine s_ifd (fun c3 => ?_) (fun c3 => ?_)
      · walk_at "zz"
        rw [lenr]
        refine s_ifnn (fun c4 => ?_) (fun c4 => ?_)
        · walk_at "zz"
          exact bad (fun z => c4 z.2)
        · rw [if_pos ⟨c3, c4⟩] at q
          have hj : v.toNat < as.length := by rw [hA.len]; omega
          obtain ⟨c, e1, e2⟩ := hA.row v.toNat as[v.toNat] (List.getElem?_eq_getElem hj)
          generalize ha : as[v.toNat] = a at *
          have hja : as[v.toNat]? = some a := by rw [List.getElem?_eq_getElem hj, ha]
          have hx : atI (as.map V.ref) v = some (.ref a) := at_of (j := v.toNat) (by omega) (by rw [List.getElem?_map, hja]; rfl)
          have ecs : cs.getD v.toNat [] = c := by rw [List.getD_eq_getElem?_getD, e1]; rfl
          rw [ecs] at q
          walk_at "zz"
          refine s_ix_l (SqL.of hl) hv0 ?_
          refine s_ix_l (SqL.of hA.top) hx ?_
          walk_at "zz"
          have ma : a ∈ as := List.mem_of_getElem? hja
          refine cl_of_row ⟨i, lv, a, vs, c, rfl, rfl, rfl, h15, by omega, hn, fun z => nv (z ▸ ma), hl, e2, hcs c (List.mem_of_getElem? e1), fun t H1 B1 h1 ht hT => ?_⟩
          refine q t as H1 (fun b o n e => B1 b o (n.imp (fun z w => z.2 (w ▸ ma)) id) e) ⟨B1.rd (fun z => hA.ne (z ▸ ma)) hA.top, fun j b hb => ?_, by rw [List.length_set]; exact hA.len, hA.nd, hA.ne⟩ (fun n hn => .inl hn) ht ?_ hT
          · obtain ⟨d, d1, d2⟩ := hA.row j b hb
            by_cases hjv : j = v.toNat
            · subst hjv
              rw [hja] at hb
              cases hb
              exact ⟨_, by rw [List.getElem?_set_self (by rw [← hA.len]; exact hj)], h1⟩
            · have nb : b ≠ a := fun z => hjv (nd_ix hA.nd (z ▸ hb) hja)
              exact ⟨d, by rw [List.getElem?_set_ne (fun z => hjv z.symm)]; exact d1, B1.rd nb d2⟩
          · intro z
            obtain ⟨j, hj⟩ := List.mem_iff_getElem?.mp z
            obtain ⟨d, _, e⟩ := hA.row j t hj
            rw [ht] at e; cases e
      · walk_at "zz"
        exact bad (fun z => c3 z.1)

theorem rd_Lbegin {Z : Adr} (T : Top Z) {a0 : V} {H : Hp} {Q : VK} {E : XK} (h : q_Lbegin Z a0 H Q E) : t_Lbegin Z (fun cls d _ H => E cls d H) ⟨fun _ H' => Q .non H', Q, fun _ _ => False, fun _ _ => False⟩ [some a0] H := by
  unfold t_Lbegin
  obtain ⟨sa, ns, rfl, hS, q⟩ := h
  walk_at "zz"
  intro p hp
  refine s_pcons ?_
  walk_at "zz"
  refine s_pcons ?_
  walk_at "zz"
  refine s_pcons ?_
  walk_at "zz"
  refine s_pnil ?_
  refine ⟨upd_same, [((kS "script"), V.ref sa), (kS "at", .int 0), (kS "left", .int 0)], rfl, (by show 3 ≤ 15; decide), ?_⟩
  have e : upd (upd H p (.dK [])) p (.dK (mergeK [] [((kS "script"), V.ref sa), (kS "at", .int 0), (kS "left", .int 0)])) = upd H p (.dK (mergeK [] [((kS "script"), V.ref sa), (kS "at", .int 0), (kS "left", .int 0)])) := upd_upd
  rw [e]
  exact q p _ (same_new hp) hp ⟨_, sa, ns, 0, 0, upd_same, StK.new sa, hS.same (same_new hp), by omega, by omega⟩

theorem rd_Lmixed {Z : Adr} (T : Top Z) {a0 a1 : V} {H : Hp} {Q : VK} {E : XK} (h : q_Lmixed Z a0 a1 H Q E) : t_Lmixed Z (fun cls d _ H => E cls d H) ⟨fun _ H' => Q .non H', Q, fun _ _ => False, fun _ _ => False⟩ [some a0, some a1, none, none] H := by
  unfold t_Lmixed
  obtain ⟨c, k, rfl, rfl, q⟩ := h
  walk_at "zz"
  exact q _ (by omega)

theorem rd_Ltake {Z : Adr} (T : Top Z) {a0 a1 : V} {H : Hp} {Q : VK} {E : XK} (h : q_Ltake Z a0 a1 H Q E) : t_Ltake Z (fun cls d _ H => E cls d H) ⟨fun _ H' => Q .non H', Q, fun _ _ => False, fun _ _ => False⟩ [some a0, some a1, none, none, none, none] H := by
  unfold t_Ltake
  obtain ⟨p, m, rfl, rfl, hm, hm2, hSt, q⟩ := h
  obtain ⟨kvs, sa, ns, k, l, hp, hk, hS, h0, h1⟩ := hSt
  have hl' := hS.sq
  have gd : ∀ {H' : Hp} {kvs' : List (Key × V)} {k' l' : Int}, But p H H' → H' p = some (.dK kvs') → StK kvs' sa k' l' → 0 ≤ k' → 0 ≤ l' → StD Z.K H' p := fun B hp' hk' a b => ⟨_, sa, ns, _, _, hp', hk', hS.but B, a, b⟩
  walk_at "zz"
  refine s_zDGet_s (.inl hp) hk.s ?_
  walk_at "zz"
  refine s_zDGet_s (.inl hp) hk.a ?_
  walk_at "zz"
  refine s_cut (fun σ' H' => But p H H' ∧ ∃ kvs' k' l' x y, H' p = some (.dK kvs') ∧ StK kvs' sa k' l' ∧ 0 ≤ k' ∧ 0 ≤ l' ∧ σ' = [some (.ref p), some (.int m), some (.ref sa), some (.int k), x, y]) ?_ ?_
  · walk_at "zz"
    refine s_zDGet_s (.inl hp) hk.l ?_
    walk_at "zz"
    refine s_ifd (fun c => ?_) (fun c => ?_)
    · walk_at "zz"
      refine c_dput_s hp (small1000 (Nat.le_trans hk.z (by decide))) fun H1 B1 hp1 => ?_
      have hk1 := hk.at_ (k + 1)
      have hS1 := hS.but B1
      have hl1 := hS1.sq
      walk_at "zz"
      refine s_cut (fun σ' H' => H' = H1 ∧ ∃ x y, σ' = [some (.ref p), some (.int m), some (.ref sa), some (.int k), some (.int x), y]) ?_ ?_
      · walk_at "zz"
        refine s_ifd (fun c2 => ?_) (fun c2 => ?_)
        · have hpos : 0 < ns.length := by rw [List.length_map] at c2; omega
          walk_at "zz"
          rw [List.length_map]
          obtain ⟨w, _, ew⟩ := at_ints ns (i := k % (ns.length : Int)) (Int.emod_nonneg _ (by omega)) (Int.emod_lt_of_pos _ (by omega))
          refine s_ix_l hl1 ew ?_
          exact ⟨rfl, _, _, rfl⟩
        · walk_at "zz"
          exact ⟨rfl, _, _, rfl⟩
      · rintro σ' H' ⟨rfl, x, y, rfl⟩
        have mx : ∀ z : Int, 0 ≤ z → Q (.int (z % m)) H' := fun z _ => q _ _ (Int.emod_nonneg _ (by omega)) (Int.emod_lt_of_pos _ hm) (gd B1 hp1 hk1 (by omega) h1) B1
        walk_at "zz"
        refine s_ifd (fun c2 => ?_) (fun c2 => ?_)
        · walk_at "zz"
          refine cl_Lmixed ⟨x, k, rfl, rfl, fun z hz => ?_⟩
          walk_at "zz"
          exact mx z hz
        · walk_at "zz"
          refine s_ifd (fun c3 => ?_) (fun c3 => ?_)
          · walk_at "zz"
            refine cl_Lmixed ⟨x, k, rfl, rfl, fun z hz => ?_⟩
            walk_at "zz"
            exact mx z hz
          · walk_at "zz"
            refine c_dput_s hp1 (small1000 (Nat.le_trans hk1.z (by decide))) fun H2 B2 hp2 => ?_
            exact ⟨B1.trans B2, _, k + 1, _, _, _, hp2, hk1.left_ (if x < 0 then -x else x), by omega, by split <;> omega, rfl⟩
    · walk_at "zz"
      exact ⟨But.refl _ _, kvs, k, l, _, _, hp, hk, h0, h1, rfl⟩
  · rintro σ' H' ⟨B1, kvs', k', l', x, y, hp1, hk1, hk0, hl0, rfl⟩
    walk_at "zz"
    refine s_zDGet_s (.inl hp1) hk1.l ?_
    walk_at "zz"
    refine s_zDGet_s (.inl hp1) hk1.l ?_
    walk_at "zz"
    refine c_dput_s hp1 (small1000 (Nat.le_trans hk1.z (by decide))) fun H3 B3 hp3 => ?_
    walk_at "zz"
    have B : But p H H3 := B1.trans B3
    exact q _ _ (Int.emod_nonneg _ (by omega)) (Int.emod_lt_of_pos _ hm) (gd B hp3 (hk1.left_ _) (by omega) (Int.ediv_nonneg hl0 (by omega))) B

theorem rd_Lnumber {Z : Adr} (T : Top Z) {a0 : V} {H : Hp} {Q : VK} {E : XK} (h : q_Lnumber Z a0 H Q E) : t_Lnumber Z (fun cls d _ H => E cls d H) ⟨fun _ H' => Q .non H', Q, fun _ _ => False, fun _ _ => False⟩ [some a0, none, none] H := by
  unfold t_Lnumber
  obtain ⟨p, rfl, hSt, q⟩ := h
  have fig : ∀ v : Int, -10 ^ 90 < v → v < 10 ^ 90 → Fig v := by
    intro v a b
    have p1 : (10 : Int) ^ 90 ≤ 10 ^ 100 := by decide +kernel
    have p2 : ((10 ^ 100 : Nat) : Int) = 10 ^ 100 := by decide +kernel
    unfold Fig
    omega
  walk_at "zz"
  refine cl_Ltake ⟨p, 12, rfl, rfl, by omega, by omega, hSt, fun v H1 v0 v1 S1 B1 => ?_⟩
  walk_at "zz"
  refine s_ifd (fun c => ?_) (fun c => ?_)
  · walk_at "zz"
    intro l hl
    walk_at "zz"
    obtain ⟨w, hw, ew⟩ := at_ints [0, 1, 2, 3, -1, 1, 2, 7, -5] (i := v) v0 (by show v < 9; omega)
    refine s_ix_l (SqL.of upd_same) ew ?_
    have hf : Fig w := by
      simp only [List.mem_cons, List.not_mem_nil, or_false] at hw
      exact fig w (by rcases hw with e | e | e | e | e | e | e | e | e <;> subst e <;> decide +kernel) (by rcases hw with e | e | e | e | e | e | e | e | e <;> subst e <;> decide +kernel)
    exact q w _ hf (S1.new hl) (B1.new hl)
  · walk_at "zz"
    refine s_ifd (fun c2 => ?_) (fun c2 => ?_)
    · walk_at "zz"
      refine cl_Ltake ⟨p, 2000, rfl, rfl, by omega, by omega, S1, fun v2 H2 v20 v21 S2 B2 => ?_⟩
      walk_at "zz"
      exact q _ _ (fig _ (by omega) (by omega)) S2 (B1.trans B2)
    · walk_at "zz"
      intro l hl
      walk_at "zz"
      refine cl_Ltake ⟨p, 4, rfl, rfl, by omega, by omega, S1.new hl, fun v2 H2 v20 v21 S2 B2 => ?_⟩
      have nl := S1.ne hl
      have hl2 := B2.rd nl upd_same
      obtain ⟨w, hw, ew⟩ := at_ints [10 ^ 59, 10 ^ 60 - 1, 10 ^ 50, 10 ^ 49] (i := v2) v20 (by show v2 < 4; omega)
      refine s_ix_l (SqL.of hl2) ew ?_
      have hw2 : -10 ^ 70 < w ∧ w < 10 ^ 70 := by
        simp only [List.mem_cons, List.not_mem_nil, or_false] at hw
        rcases hw with e | e | e | e <;> subst e <;> decide +kernel
      have B2' : But p H H2 := (B1.new hl).trans B2
      walk_at "zz"
      intro l3 hl3
      walk_at "zz"
      obtain ⟨w3, hw3, ew3⟩ := at_ints [1, -1] (i := v - 10) (by omega) (by show v - 10 < 2; omega)
      refine s_ix_l (SqL.of upd_same) ew3 ?_
      have hw3' : w3 = 1 ∨ w3 = -1 := by simpa using hw3
      walk_at "zz"
      refine cl_Ltake ⟨p, 2, rfl, rfl, by omega, by omega, S2.new hl3, fun v4 H4 v40 v41 S4 B4 => ?_⟩
      walk_at "zz"
      intro l5 hl5
      walk_at "zz"
      obtain ⟨w5, hw5, ew5⟩ := at_ints [1, -1] (i := v - 10) (by omega) (by show v - 10 < 2; omega)
      refine s_ix_l (SqL.of upd_same) ew5 ?_
      have hw5' : w5 = 1 ∨ w5 = -1 := by simpa using hw5
      walk_at "zz"
      refine q _ _ (fig _ ?_ ?_) (S4.new hl5) (((B2'.new hl3).trans B4).new hl5)
      all_goals
        have p1 : (10 : Int) ^ 70 + 100 ≤ 10 ^ 90 := by decide +kernel
        generalize (10 : Int) ^ 70 = X at *
        generalize (10 : Int) ^ 90 = Y at *
        rcases hw3' with e | e <;> rcases hw5' with e5 | e5 <;> subst e <;> subst e5 <;> omega

theorem rd_Lcounted {Z : Adr} (T : Top Z) {a0 a1 a2 : V} {H : Hp} {Q : VK} {E : XK} (h : q_Lcounted Z a0 a1 a2 H Q E) : t_Lcounted Z (fun cls d _ H => E cls d H) ⟨fun _ H' => Q .non H', Q, fun _ _ => False, fun _ _ => False⟩ [some a0, some a1, some a2, none] H := by
  unfold t_Lcounted
  exact h.elim

theorem rd_Ldeed {Z : Adr} (T : Top Z) {a0 a1 a2 : V} {H : Hp} {Q : VK} {E : XK} (h : q_Ldeed Z a0 a1 a2 H Q E) : t_Ldeed Z (fun cls d _ H => E cls d H) ⟨fun _ H' => Q .non H', Q, fun _ _ => False, fun _ _ => False⟩ [some a0, some a1, some a2, none] H := by
  unfold t_Ldeed
  obtain ⟨i, lv, lr, vs, as, cs, rfl, rfl, rfl, h15, h19, hn, hl, hA, nv, nlr, hF, q⟩ := h
  have hlen : (as.map V.ref).length = cs.length := by rw [List.length_map]; exact hA.len
  have htop := hA.top
  have hc := hF.1
  have at1 : i ≠ 18 → i ≠ 19 → atI (vs.map V.int) 1 = some (.int (vs.getD 1 0)) := fun h h' => by
    have hpos : 1 < vs.length := by rw [hn]; unfold partsN; split <;> (try split) <;> (try split) <;> omega
    exact at_of (j := 1) rfl (by match vs, hpos with | _ :: _ :: _, _ => rfl)
  have at2 : i = 17 → atI (vs.map V.int) 2 = some (.int (vs.getD 2 0)) := fun h => by
    have hpos : 2 < vs.length := by rw [hn, h]; decide
    exact at_of (j := 2) rfl (by match vs, hpos with | _ :: _ :: _ :: _, _ => rfl)
  have at0 : i ≠ 19 → atI (vs.map V.int) 0 = some (.int (vs.getD 0 0)) := fun h => by
    have hpos : 0 < vs.length := by rw [hn]; unfold partsN; split <;> (try split) <;> (try split) <;> omega
    exact at_of (j := 0) rfl (by match vs, hpos with | _ :: _, _ => rfl)
  unfold rowsW at q
  walk_at "zz"
  refine s_ifd (fun c => by omega) (fun c => ?_)
  walk_at "zz"
  refine s_ifd (fun c2 => ?_) (fun c2 => ?_)
  · rw [if_pos c2] at q
    walk_at "zz"
    intro l hl2
    walk_at "zz"
    have nf := hA.free hl2
    refine c_append (up_new hl2 htop) (small1000 (by omega)) fun H1 B1 h1 => ?_
    have hA1 := (hA.same (same_new (o := .lst []) hl2)).push (c := []) upd_same nf.1 nf.2 B1 h1
    walk_at "zz"
    have e5 : ((as.map V.ref ++ [V.ref l]).length : Int) - 1 = cs.length := by rw [List.length_append, hlen]; simp
    rw [e5]
    refine q _ H1 (fun b o n e => B1 b o (n.imp (fun z => z.1) id) (up_new hl2 e)) hA1 fun n hn => ?_
    rcases List.mem_append.mp hn with z | z
    · exact .inl z
    · exact .inr (by rw [List.mem_singleton.mp z]; exact hl2)
  · rw [if_neg c2] at q
    have a0 := at0 c2
    walk_at "zz"
    refine s_ix_l (SqL.of hl) a0 ?_
    walk_at "zz"
    generalize hv : vs.getD 0 0 = v at *
    have bad : ¬ (0 ≤ v ∧ v < cs.length) → Q (.str "row") H := fun hb => by
      rw [if_neg hb] at q
      exact q as H (fun b o _ e => e) hA fun n hn => .inl hn
    refine s_ifd (fun c3 => ?_) (fun c3 => ?_)
    · walk_at "zz"
      exact bad (by omega)
    · walk_at "zz"
      refine s_ix_l (SqL.of hl) a0 ?_
      walk_at "zz"
      refine s_ifd (fun c4 => ?_) (fun c4 => ?_)
      · walk_at "zz"
        exact bad (by omega)
      · rw [if_pos ⟨by omega, by omega⟩] at q
        have hj : v.toNat < as.length := by rw [hA.len]; omega
        obtain ⟨c, e1, e2⟩ := hA.row v.toNat as[v.toNat] (List.getElem?_eq_getElem hj)
        generalize ha : as[v.toNat] = a at *
        have hja : as[v.toNat]? = some a := by rw [List.getElem?_eq_getElem hj, ha]
        have hx : atI (as.map V.ref) v = some (.ref a) := at_of (j := v.toNat) (by omega) (by rw [List.getElem?_map, hja]; rfl)
        have ecs : cs.getD v.toNat [] = c := by rw [List.getD_eq_getElem?_getD, e1]; rfl
        have hcl := hF.2 c (List.mem_of_getElem? e1)
        have ma : a ∈ as := List.mem_of_getElem? hja
        have nva : lv ≠ a := fun z => nv (z ▸ ma)
        rw [ecs] at q
        -- the row changed
        have hset : ∀ (H1 : Hp) (c' : List Int), But a H H1 → H1 a = some (.lst (c'.map V.int)) → HeapAt H1 lr as (cs.set v.toNat c') := fun H1 c' B1 h1 => by
          refine ⟨B1.rd (fun z => hA.ne (z ▸ ma)) hA.top, fun j b hb => ?_, by rw [List.length_set]; exact hA.len, hA.nd, hA.ne⟩
          obtain ⟨d, d1, d2⟩ := hA.row j b hb
          by_cases hjv : j = v.toNat
          · subst hjv
            rw [hja] at hb
            cases hb
            exact ⟨_, by rw [List.getElem?_set_self (by rw [← hA.len]; exact hj)], h1⟩
          · have nb : b ≠ a := fun z => hjv (nd_ix hA.nd (z ▸ hb) hja)
            exact ⟨d, by rw [List.getElem?_set_ne (fun z => hjv z.symm)]; exact d1, B1.rd nb d2⟩
        have fr : ∀ (H1 : Hp), But a H H1 → Fr lr as H H1 := fun H1 B1 b o n e => B1 b o (n.imp (fun z w => z.2 (w ▸ ma)) id) e
        have same0 : cs.set v.toNat c = cs := by
          refine List.ext_getElem? fun j => ?_
          by_cases hjv : v.toNat = j
          · subst hjv
            rw [List.getElem?_set_self (by rw [← hA.len]; exact hj), e1]
          · rw [List.getElem?_set_ne hjv]
        walk_at "zz"
        refine s_ix_l (SqL.of hl) a0 ?_
        refine s_ix_l (SqL.of htop) hx ?_
        unfold rowW at q
        walk_at "zz"
        refine s_ifd (fun c5 => ?_) (fun c5 => ?_)
        · rw [if_pos c5] at q
          walk_at "zz"
          rw [List.length_map]
          exact q as H (fun b o _ e => e) (by rw [same0]; exact hA) fun n hn => .inl hn
        · rw [if_neg c5] at q
          have a1 := at1 c5 c2
          walk_at "zz"
          refine s_ifd (fun c6 => ?_) (fun c6 => ?_)
          · rw [if_pos c6] at q
            walk_at "zz"
            refine s_ix_l (SqL.of hl) a1 ?_
            walk_at "zz"
            refine c_append e2 (small1000 (by rw [List.length_map]; exact hcl)) fun H1 B1 h1 => ?_
            have hl1 := B1.rd nva hl
            walk_at "zz"
            refine s_ix_l (SqL.of hl1) a1 ?_
            exact q as H1 (fr H1 B1) (hset H1 _ B1 (by rw [h1, List.map_append]; rfl)) fun n hn => .inl hn
          · rw [if_neg c6] at q
            walk_at "zz"
            refine s_ix_l (SqL.of hl) a1 ?_
            walk_at "zz"
            generalize hv1 : vs.getD 1 0 = v1 at *
            have bad2 : ¬ (0 ≤ v1 ∧ v1 < c.length) → Q (.str "place") H := fun hb => by
              rw [if_neg hb] at q
              exact q as H (fun b o _ e => e) (by rw [same0]; exact hA) fun n hn => .inl hn
            refine s_ifd (fun c7 => ?_) (fun c7 => ?_)
            · walk_at "zz"
              exact bad2 (by omega)
            · walk_at "zz"
              refine s_ix_l (SqL.of hl) a1 ?_
              walk_at "zz"
              rw [List.length_map]
              refine s_ifd (fun c8 => ?_) (fun c8 => ?_)
              · walk_at "zz"
                exact bad2 (by omega)
              · rw [if_pos ⟨by omega, by omega⟩] at q
                have hx1 : ∀ d : List Int, d.length = c.length → atI (d.map V.int) v1 = some (.int (d.getD v1.toNat 0)) := fun d hd => by
                  refine at_of (j := v1.toNat) (by omega) ?_
                  rw [List.getElem?_map, List.getD_eq_getElem?_getD, List.getElem?_eq_getElem (by omega)]
                  rfl
                walk_at "zz"
                refine s_cut (fun σ' H' => (i ≠ 17 ∧ H' = H ∧ σ' = [some (.int i), some (.ref lv), some (.ref lr), some (.ref a)]) ∨ (i = 17 ∧ But a H H' ∧ H' a = some (.lst ((c.set v1.toNat (vs.getD 2 0)).map V.int)) ∧ σ' = [some (.int i), some (.ref lv), some (.ref lr), some (.ref a)])) ?_ ?_
                · walk_at "zz"
                  refine s_ifd (fun c9 => ?_) (fun c9 => ?_)
                  · walk_at "zz"
                    refine s_ix_l (SqL.of hl) (at2 c9) ?_
                    walk_at "zz"
                    refine s_ix_l (SqL.of hl) a1 ?_
                    refine c_setL v1.toNat ((c.set v1.toNat (vs.getD 2 0)).map V.int) e2 (by unfold ixN; rw [if_pos (by omega), if_pos (by rw [List.length_map]; omega)]) (by rw [List.map_set]) fun H1 B1 h1 => ?_
                    exact .inr ⟨c9, B1, h1, rfl⟩
                  · walk_at "zz"
                    exact .inl ⟨c9, rfl, rfl⟩
                · rintro σ' H' (⟨n17, rfl, rfl⟩ | ⟨e17, B1, h1, rfl⟩)
                  · rw [if_pos (by omega)] at q
                    walk_at "zz"
                    refine s_ix_l (SqL.of hl) a1 ?_
                    refine s_ix_l (SqL.of e2) (hx1 c rfl) ?_
                    exact q as H' (fun b o _ e => e) (by rw [same0]; exact hA) fun n hn => .inl hn
                  · rw [if_neg (by omega)] at q
                    have hl1 := B1.rd nva hl
                    walk_at "zz"
                    refine s_ix_l (SqL.of hl1) a1 ?_
                    refine s_ix_l (SqL.of h1) (hx1 _ (List.length_set ..)) ?_
                    have eg : (c.set v1.toNat (vs.getD 2 0)).getD v1.toNat 0 = vs.getD 2 0 := by
                      rw [List.getD_eq_getElem?_getD, List.getElem?_set_self (by omega)]; rfl
                    rw [eg]
                    exact q as H' (fr H' B1) (hset H' _ B1 h1) fun n hn => .inl hn

theorem rd_Lrow_number {Z : Adr} (T : Top Z) {a0 a1 : V} {H : Hp} {Q : VK} {E : XK} (h : q_Lrow_number Z a0 a1 H Q E) : t_Lrow_number Z (fun cls d _ H => E cls d H) ⟨fun _ H' => Q .non H', Q, fun _ _ => False, fun _ _ => False⟩ [some a0, some a1] H := by
  unfold t_Lrow_number
  obtain ⟨p, lr, as, cs, rfl, rfl, D0, hA, h0, h1, q⟩ := h
  have hlen : (as.map V.ref).length = cs.length := by rw [List.length_map]; exact hA.len
  obtain ⟨o, ho, no⟩ := D0.obj
  have np := hA.other ho no
  walk_at "zz"
  refine cl_Ltake ⟨p, 4, rfl, rfl, by omega, by omega, D0, fun v H1 v0 v1 D1 B1 => ?_⟩
  have hA1 := hA.but B1 np.1 np.2
  have ht1 := hA1.top
  walk_at "zz"
  refine s_ifd (fun c => ?_) (fun c => ?_)
  · walk_at "zz"
    intro l hl
    walk_at "zz"
    refine cl_Ltake ⟨p, 4, rfl, rfl, by omega, by omega, D1.new hl, fun v2 H2 v20 v21 D2 B2 => ?_⟩
    have hl2 := B2.rd (D1.ne hl) upd_same
    obtain ⟨w, _, ew⟩ := at_ints [-1, ((as.map V.ref).length : Int), 100000000000000000000000000000000000000000000000000000000000, 0 - ((as.map V.ref).length : Int)] (i := v2) v20 (by show v2 < 4; omega)
    refine s_ix_l (SqL.of hl2) ew ?_
    exact q w H2 D2 ((B1.new hl).trans B2)
  · walk_at "zz"
    refine cl_Ltake ⟨p, ((as.map V.ref).length : Int), rfl, rfl, by omega, by omega, D1, fun v2 H2 v20 v21 D2 B2 => ?_⟩
    exact q v2 H2 D2 (B1.trans B2)

theorem rd_Lplace {Z : Adr} (T : Top Z) {a0 a1 a2 : V} {H : Hp} {Q : VK} {E : XK} (h : q_Lplace Z a0 a1 a2 H Q E) : t_Lplace Z (fun cls d _ H => E cls d H) ⟨fun _ H' => Q .non H', Q, fun _ _ => False, fun _ _ => False⟩ [some a0, some a1, some a2, none, none] H := by
  unfold t_Lplace
  obtain ⟨p, lr, as, cs, i, rfl, rfl, rfl, D0, hA, hF, q⟩ := h
  have hlen : (as.map V.ref).length = cs.length := by rw [List.length_map]; exact hA.len
  have ht := hA.top
  walk_at "zz"
  refine s_cut (fun σ' H' => H' = H ∧ ∃ z, 0 ≤ z ∧ z ≤ 1000 ∧ σ' = [some (.ref p), some (.ref lr), some (.int i), some (.int z), none]) ?_ ?_
  · walk_at "zz"
    refine s_ifd (fun c => ?_) (fun c => ?_)
    · walk_at "zz"
      refine s_ifd (fun c2 => ?_) (fun c2 => ?_)
      · have hj : i.toNat < as.length := by rw [List.length_map] at c2; omega
        obtain ⟨c', e1, e2⟩ := hA.row i.toNat as[i.toNat] (List.getElem?_eq_getElem hj)
        have hx : atI (as.map V.ref) i = some (.ref as[i.toNat]) := at_of (j := i.toNat) (by omega) (by rw [List.getElem?_map, List.getElem?_eq_getElem hj]; rfl)
        walk_at "zz"
        refine s_ix_l (SqL.of ht) hx ?_
        walk_at "zz"
        have := hF.2 c' (List.mem_of_getElem? e1)
        refine ⟨rfl, _, ?_, ?_, rfl⟩
        · omega
        · rw [List.length_map]; omega
      · walk_at "zz"
        exact ⟨rfl, 0, by omega, by omega, rfl⟩
    · walk_at "zz"
      exact ⟨rfl, 0, by omega, by omega, rfl⟩
  · rintro σ' H' ⟨rfl, z, z0, z1, rfl⟩
    walk_at "zz"
    refine cl_Ltake ⟨p, 6, rfl, rfl, by omega, by omega, D0, fun v H1 v0 v1 D1 B1 => ?_⟩
    walk_at "zz"
    have fin : tRet (tOp (rIx Z.K) (tLst (tCons (tUn (rU fun i => .int (-i)) (tC (.int 1))) (tCons (tVar 3) (tCons (tOp (rAddU Z.K) (tVar 3) (tC (.int 1))) (tCons (tC (.int 100000000000000000000000000000000000000000000000000000000000)) (tCons (tOp (rI0 fun i j => .int (i - j)) (tC (.int 0)) (tVar 3)) (tCons (tC (.int 0)) tNil))))))) (tVar 4))
      ⟨fun _ H' => Q .non H', Q, fun _ _ => False, fun _ _ => False⟩ [some (.ref p), some (.ref lr), some (.int i), some (.int z), some (.int v)] H1 := by
      walk_at "zz"
      intro l hl
      walk_at "zz"
      obtain ⟨w, _, ew⟩ := at_ints [-1, z, z + 1, 100000000000000000000000000000000000000000000000000000000000, 0 - z, 0] (i := v) v0 (by show v < 6; omega)
      refine s_ix_l (SqL.of upd_same) ew ?_
      exact q w _ (D1.new hl) (B1.new hl)
    refine s_ifd (fun c => ?_) (fun c => ?_)
    · walk_at "zz"
      refine s_ifd (fun c2 => ?_) (fun c2 => ?_)
      · walk_at "zz"
        refine cl_Ltake ⟨p, z, rfl, rfl, by omega, by omega, D1, fun v2 H2 v20 v21 D2 B2 => ?_⟩
        exact q v2 H2 D2 (B1.trans B2)
      · exact fin
    · exact fin

theorem rd_law {Z : Adr} (T : Top Z) {a0 : V} {H : Hp} {Q : VK} {E : XK} (h : q_law Z a0 H Q E) : t_law Z (fun cls d _ H => E cls d H) ⟨fun _ H' => Q .non H', Q, fun _ _ => False, fun _ _ => False⟩ [some a0, none, none, none, none, none, none, none, none, none, none, none, none, none] H := by
  unfold t_law
  obtain ⟨a, ns, rfl, hO, hS, hns, q⟩ := h
  walk_at "zz"
  refine cl_Lbegin ⟨a, ns, rfl, hS, fun p H1 S1 hp D1 => ?_⟩
  walk_at "zz"
  intro lr hlr
  walk_at "zz"
  refine cl_Ltake ⟨p, 4, rfl, rfl, by omega, by omega, D1.new hlr, fun v H2 v0 v1 D2 B2 => ?_⟩
  have hlr2 := B2.rd (D1.ne hlr) upd_same
  walk_at "zz"
  refine loop_range (fun i σ' H' => StD Z.K H' p ∧ ∃ as cs x3, HeapAt H' lr as cs ∧ Few 5 4 cs ∧ cs.length = i ∧ σ' = [some (.ref a), some (.ref p), some (.ref lr), x3, none, none, none, none, none, none, none, none, none, none])
    ⟨D2, [], [], none, ⟨hlr2, fun i a h => by simp at h, rfl, List.nodup_nil, by simp⟩, ⟨Nat.zero_le _, by simp⟩, rfl, rfl⟩ ?_ ?_
  · rintro i σ' H3 hi ⟨D3, as, cs, x3, hA, hF, hlen, rfl⟩
    have htop := hA.top
    walk_at "zz"
    refine cl_Ltake ⟨p, 5, rfl, rfl, by omega, by omega, D3, fun v5 H4 v50 v51 D4 B4 => ?_⟩
    obtain ⟨o, ho, no⟩ := D3.obj
    have np := hA.other ho no
    have hA4 := hA.but B4 np.1 np.2
    walk_at "zz"
    refine lc_rng (fun D j H' => StD Z.K H' p ∧ But p H4 H' ∧ ∃ ws : List Int, H' D = some (.lst (ws.map V.int)) ∧ ws.length = j) (fun D hD => ⟨D4.new hD, (But.refl p H4).new hD, [], upd_same, rfl⟩) ?_ ?_
    · rintro D j H5 hD hj ⟨D5, B5, ws, hw, hwl⟩
      walk_at "zz"
      refine cl_Lnumber ⟨p, rfl, D5, fun n H6 _ D6 B6 => ?_⟩
      have nD : D ≠ p := D4.ne hD
      refine c_acc (B6.rd nD hw) (small1000 (by rw [List.length_map]; omega)) fun H7 B7 h7 => ?_
      exact ⟨D6.but B7 nD.symm, (B5.trans B6).own B7 hD, ws ++ [n], by rw [h7, List.map_append]; rfl, by rw [List.length_append, hwl]; rfl⟩
    · rintro D H5 hD ⟨D5, B5, ws, hw, hwl⟩
      have hA5 := hA4.but B5 np.1 np.2
      have nf := hA4.free hD
      have htop5 := hA5.top
      walk_at "zz"
      refine c_append htop5 (small1000 (by rw [List.length_map, hA.len]; omega)) fun H6 B6 h6 => ?_
      walk_at "zz"
      obtain ⟨o5, ho5, no5⟩ := D5.obj
      refine ⟨D5.but B6 (hA5.other ho5 no5).1, _, _, _, hA5.push hw nf.1 nf.2 B6 h6, ⟨by rw [List.length_append]; simp; omega, fun c hc => ?_⟩, by rw [List.length_append, hlen]; rfl, rfl⟩
      rcases List.mem_append.mp hc with z | z
      · exact hF.2 c z
      · cases List.mem_singleton.mp z; omega
  · rintro σ' H3 ⟨D3, as, cs, x3, hA, hF, hlen, rfl⟩
    have htop := hA.top
    walk_at "zz"
    refine lc_lst (as.map V.ref) (fun D j H' => Same H3 H' ∧ ∃ bs, HeapAt H' D bs (cs.take j) ∧ (∀ b ∈ bs, H3 b = none)) (fun D hD => ⟨same_new hD, [], ⟨upd_same, fun i a h => by simp at h, by simp, List.nodup_nil, by simp⟩, by simp⟩) (fun D j H' hD hj h => SqL.of (h.1 _ _ htop)) ?_ ?_
    · rintro D j x H5 hD hx ⟨S5, bs, hB, hbn⟩
      rw [List.getElem?_map] at hx
      obtain ⟨a1, ha1, rfl⟩ := Option.map_eq_some_iff.mp hx
      obtain ⟨c, e1, e2⟩ := hA.row j a1 ha1
      have e5 := S5 _ _ e2
      have hB5 := hB.top
      walk_at "zz"
      intro l hl
      have nf := hB.free hl
      refine c_acc (up_new hl hB5) (small1000 (by rw [List.length_map, hB.len, List.length_take]; have := hF.1; omega)) fun H6 B6 h6 => ?_
      refine ⟨same_own (S5.trans (same_new hl)) B6 hD, bs ++ [l], ?_, fun b hb => ?_⟩
      · have := (hB.same (same_new (o := .lst (c.map V.int)) hl)).push (c := c) upd_same nf.1 nf.2 B6 h6
        rw [List.take_add_one, e1]
        exact this
      · rcases List.mem_append.mp hb with z | z
        · exact hbn b z
        · cases List.mem_singleton.mp z; exact S5.free hl
    · rintro lm H5 hlm ⟨S5, bs, hB, hbn⟩
      rw [List.length_map, hA.len, List.take_length] at hB
      have hA5 := hA.same S5
      have T5 : Two Z.K H5 p lr lm as bs cs := by
        refine ⟨D3.same S5, hA5, hB, (hA.free hlm).1.symm, fun z => ?_, (hA.free hlm).2, fun x hx z => ?_⟩
        · have := hbn _ z; rw [htop] at this; cases this
        · obtain ⟨j, hj⟩ := List.mem_iff_getElem?.mp hx
          obtain ⟨c, _, e⟩ := hA.row j x hj
          rw [hbn _ z] at e; cases e
      walk_at "zz"
      refine cl_Ltake ⟨p, 17, rfl, rfl, by omega, by omega, T5.d, fun w H6 w0 w1 D6 B6 => ?_⟩
      have T6 := T5.but D6 B6
      walk_at "zz"
      refine loop_range (fun i σ' H' => ∃ as bs cs x3 x5 x6 x7 x8 x9 x10 x11 x12 x13, Two Z.K H' p lr lm as bs cs ∧ Few (5 + i) (4 + i) cs ∧ 0 < cs.length ∧ σ' = [some (.ref a), some (.ref p), some (.ref lr), x3, some (.ref lm), x5, x6, x7, x8, x9, x10, x11, x12, x13])
        ⟨as, bs, cs, _, _, _, _, _, _, _, _, _, _, T6, hF, by omega, rfl⟩ ?_ ?_
      · clear hF hlen hA hB T5 T6 hA5 htop hbn S5 hlm D3 D6 B6
        rintro i σ' H7 hi ⟨as, bs, cs, x3, x5, x6, x7, x8, x9, x10, x11, x12, x13, T7, hF, hpos, rfl⟩
        have hi' : i < 17 := by omega
        walk_at "zz"
        intro l1 hl1
        walk_at "zz"
        refine cl_Ltake ⟨p, 7, rfl, rfl, by omega, by omega, T7.d.new hl1, fun w7 H8 w70 w71 D8 B8 => ?_⟩
        have T8 := (T7.new (o := .lst [V.int 15, .int 16, .int 17, .int 18, .int 19, .int 15, .int 17]) hl1).but D8 B8
        have hl8 := B8.rd (T7.d.ne hl1) upd_same
        obtain ⟨k, hk, ek⟩ := at_ints [15, 16, 17, 18, 19, 15, 17] (i := w7) w70 (by show w7 < 7; omega)
        refine s_ix_l (SqL.of hl8) ek ?_
        have hk' : 15 ≤ k ∧ k ≤ 19 := by simp at hk; omega
        walk_at "zz"
        refine cl_Lrow_number ⟨p, lr, as, cs, rfl, rfl, T8.d, T8.r, hpos, by have := hF.1; omega, fun nh H9 D9 B9 => ?_⟩
        have T9 := T8.but D9 B9
        have few : Few 1000 1000 cs := ⟨by have := hF.1; omega, fun c hc => by have := hF.2 c hc; omega⟩
        walk_at "zz"
        refine cl_Lnumber ⟨p, rfl, T9.d, fun num H10 _ D10 B10 => ?_⟩
        have T10 := T9.but D10 B10
        walk_at "zz"
        intro la hla
        have T11 := T10.new (o := .lst [V.int nh, .int num]) hla
        walk_at "zz"
        refine cl_Lplace ⟨p, lm, bs, cs, nh, rfl, rfl, rfl, T11.d, T11.m, few, fun pl H12 D12 B12 => ?_⟩
        have T12 := T11.but D12 B12
        have ha12 := B12.rd (T10.d.ne hla) upd_same
        have fa := T10.r.free hla
        have fa' := T10.m.free hla
        walk_at "zz"
        intro lb hlb
        walk_at "zz"
        intro lc hlc
        walk_at "zz"
        intro ld hld
        walk_at "zz"
        intro le hle
        walk_at "zz"
        intro lf hlf
        walk_at "zz"
        have T13 := ((((T12.new (o := .lst [V.int nh, .int pl]) hlb).new (o := .lst []) hlc).new (o := .lst [V.int nh]) hld).new (o := .lst []) hle)
        have T14 := T13.new (o := .lst [V.ref la, .ref lb, .ref lc, .ref ld, .ref le]) hlf
        have fb := T12.r.free hlb
        have fb' := T12.m.free hlb
        have fc := (T12.new (o := .lst [V.int nh, .int pl]) hlb).r.free hlc
        have fc' := (T12.new (o := .lst [V.int nh, .int pl]) hlb).m.free hlc
        have fd := ((T12.new (o := .lst [V.int nh, .int pl]) hlb).new (o := .lst []) hlc).r.free hld
        have fd' := ((T12.new (o := .lst [V.int nh, .int pl]) hlb).new (o := .lst []) hlc).m.free hld
        have fe := (((T12.new (o := .lst [V.int nh, .int pl]) hlb).new (o := .lst []) hlc).new (o := .lst [V.int nh]) hld).r.free hle
        have fe' := (((T12.new (o := .lst [V.int nh, .int pl]) hlb).new (o := .lst []) hlc).new (o := .lst [V.int nh]) hld).m.free hle
        have g1 := up_new (u := .lst [V.ref la, .ref lb, .ref lc, .ref ld, .ref le]) hlf (up_new (u := .lst []) hle (up_new (u := .lst [V.int nh]) hld (up_new (u := .lst []) hlc (up_new (u := .lst [V.int nh, .int pl]) hlb ha12))))
        have g2 := up_new (u := .lst [V.ref la, .ref lb, .ref lc, .ref ld, .ref le]) hlf (up_new (u := .lst []) hle (up_new (u := .lst [V.int nh]) hld (up_new (u := .lst []) hlc (upd_same (H := H12) (a := lb) (o := .lst [V.int nh, .int pl])))))
        have g3 := up_new (u := .lst [V.ref la, .ref lb, .ref lc, .ref ld, .ref le]) hlf (up_new (u := .lst []) hle (up_new (u := .lst [V.int nh]) hld (upd_same (H := upd H12 lb (.lst [V.int nh, .int pl])) (a := lc) (o := .lst []))))
        have g4 := up_new (u := .lst [V.ref la, .ref lb, .ref lc, .ref ld, .ref le]) hlf (up_new (u := .lst []) hle (upd_same (H := upd (upd H12 lb (.lst [V.int nh, .int pl])) lc (.lst [])) (a := ld) (o := .lst [V.int nh])))
        have g5 := up_new (u := .lst [V.ref la, .ref lb, .ref lc, .ref ld, .ref le]) hlf (upd_same (H := upd (upd (upd H12 lb (.lst [V.int nh, .int pl])) lc (.lst [])) ld (.lst [V.int nh])) (a := le) (o := .lst []))
        have g6 := upd_same (H := upd (upd (upd (upd H12 lb (.lst [V.int nh, .int pl])) lc (.lst [])) ld (.lst [V.int nh])) le (.lst [])) (a := lf) (o := .lst [V.ref la, .ref lb, .ref lc, .ref ld, .ref le])
        generalize upd (upd (upd (upd (upd H12 lb (.lst [V.int nh, .int pl])) lc (.lst [])) ld (.lst [V.int nh])) le (.lst [])) lf (.lst [V.ref la, .ref lb, .ref lc, .ref ld, .ref le]) = H14 at *
        obtain ⟨lv, vs, ev, hv, fv, fv', hnn⟩ : ∃ (lv : Addr) (vs : List Int), atI [V.ref la, .ref lb, .ref lc, .ref ld, .ref le] (k - 15) = some (.ref lv) ∧ H14 lv = some (.lst (vs.map V.int)) ∧ (lv ≠ lr ∧ lv ∉ as) ∧ (lv ≠ lm ∧ lv ∉ bs) ∧ (k ≠ 17 → vs.length = partsN k) := by
          obtain e | e | e | e | e : k = 15 ∨ k = 16 ∨ k = 17 ∨ k = 18 ∨ k = 19 := by omega
          · subst e; exact ⟨la, [nh, num], rfl, g1, fa, fa', fun _ => rfl⟩
          · subst e; exact ⟨lb, [nh, pl], rfl, g2, fb, fb', fun _ => rfl⟩
          · subst e; exact ⟨lc, [], rfl, g3, fc, fc', fun h => absurd rfl h⟩
          · subst e; exact ⟨ld, [nh], rfl, g4, fd, fd', fun _ => rfl⟩
          · subst e; exact ⟨le, [], rfl, g5, fe, fe', fun _ => rfl⟩
        refine s_ix_l (SqL.of g6) ev ?_
        clear g1 g2 g3 g4 g5 g6 fa fa' fb fb' fc fc' fd fd' fe fe' T12 T13 T11 T10 T9 T8 T7 hl8 ha12
        walk_at "zz"
        refine s_cut (fun σ' H' => ∃ (lv : Addr) (vs : List Int), ∃ y8 y9 y10 y11 y12 y13 y3, Two Z.K H' p lr lm as bs cs ∧ H' lv = some (.lst (vs.map V.int)) ∧ (lv ≠ lr ∧ lv ∉ as) ∧ (lv ≠ lm ∧ lv ∉ bs) ∧ vs.length = partsN k ∧ σ' = [some (.ref a), some (.ref p), some (.ref lr), y3, some (.ref lm), some (.int k), some (.int nh), some (.ref lv), y8, y9, y10, y11, y12, y13]) ?_ ?_
        · walk_at "zz"
          refine s_ifd (fun c => ?_) (fun c => ?_)
          · walk_at "zz"
            refine cl_Lplace ⟨p, lm, bs, cs, nh, rfl, rfl, rfl, T14.d, T14.m, few, fun pl2 H15 D15 B15 => ?_⟩
            have T15 := T14.but D15 B15
            walk_at "zz"
            refine cl_Lnumber ⟨p, rfl, T15.d, fun num2 H16 _ D16 B16 => ?_⟩
            have T16 := T15.but D16 B16
            walk_at "zz"
            intro lx hlx
            walk_at "zz"
            exact ⟨lx, [nh, pl2, num2], _, _, _, _, _, _, _, T16.new hlx, upd_same, T16.r.free hlx, T16.m.free hlx, by rw [c]; rfl, rfl⟩
          · walk_at "zz"
            exact ⟨lv, vs, _, _, _, _, _, _, _, T14, hv, fv, fv', hnn c, rfl⟩
        · clear hv fv fv' hnn ev T14
          rintro σ' H17 ⟨lv, vs, y8, y9, y10, y11, y12, y13, y3, T17, hv, fv, fv', hnn, rfl⟩
          walk_at "zz"
          refine cl_Ldeed ⟨k, lv, lm, vs, bs, cs, rfl, rfl, rfl, hk'.1, hk'.2, hnn, hv, T17.m, fv'.2, fv'.1, few, fun bs2 H18 F18 hM18 nw18 => ?_⟩
          have keep18 : ∀ x o, x ≠ lm → x ∉ bs → H17 x = some o → H18 x = some o := fun x o n1 n2 e => F18 x o (.inl ⟨n1, n2⟩) e
          have hv18 := keep18 _ _ fv'.1 fv'.2 hv
          have r18 : HeapAt H18 lr as cs := T17.r.fr F18 T17.n1 T17.n2 T17.n3 T17.n4
          obtain ⟨o, ho, no⟩ := T17.d.obj
          have npm := T17.m.other ho no
          have d18 : StD Z.K H18 p := T17.d.keep fun x o z e => by
            rcases z with z | z
            · subst z; exact F18 _ _ (.inl npm) e
            · exact F18 _ _ (.inr z) e
          have lvb2 : lv ∉ bs2 := fun z => by
            rcases nw18 lv z with w | w
            · exact fv'.2 w
            · rw [hv] at w; cases w
          have lrb2 : lr ∉ bs2 := fun z => by
            rcases nw18 lr z with w | w
            · exact T17.n2 w
            · rw [T17.r.top] at w; cases w
          have asb2 : ∀ x ∈ as, x ∉ bs2 := fun x hx z => by
            rcases nw18 x z with w | w
            · exact T17.n4 x hx w
            · obtain ⟨j, hj⟩ := List.mem_iff_getElem?.mp hx
              obtain ⟨c, _, e⟩ := T17.r.row j x hj
              rw [w] at e; cases e
          have fine := rowsW_fine k vs cs
          walk_at "zz"
          refine s_cut (fun σ' H' => ∃ t z9 z10, Same H18 H' ∧ H' t = some (.tup (rowsW k vs cs).1.vs) ∧ σ' = [some (.ref a), some (.ref p), some (.ref lr), y3, some (.ref lm), some (.int k), some (.int nh), some (.ref lv), some (.ref t), z9, z10, y11, y12, y13]) ?_ ?_
          · cases e : (rowsW k vs cs).1 with
            | ok v =>
              walk_at "zz"
              refine s_isi (bb := false) (.ty "str") (.base (.int v)) (kit_ty (by decide +kernel)) ?_
              walk_at "zz"
              intro t ht
              walk_at "zz"
              exact ⟨t, _, _, same_new ht, upd_same, rfl⟩
            | flt s =>
              walk_at "zz"
              refine s_isi (bb := true) (.ty "str") (.base (.str s)) (kit_ty (by decide +kernel)) ?_
              walk_at "zz"
              intro t ht
              walk_at "zz"
              exact ⟨t, _, _, same_new ht, upd_same, rfl⟩
          · rintro σ' H19 ⟨t, z9, z10, S19, ht19, rfl⟩
            have hv19 := S19 _ _ hv18
            have r19 := r18.same S19
            have m19 := hM18.same S19
            walk_at "zz"
            intro lh hlh
            walk_at "zz"
            have fr := (r19.free hlh)
            have fm := (m19.free hlh)
            refine cl_worth (.inr ⟨k, lh, lr, vs, as, cs, rfl, rfl, rfl, hk'.1, hk'.2, hnn, upd_same, r19.same (same_new hlh), fr.2, fr.1, by have := few.1; omega, fun c hc => by have := few.2 c hc; omega, fun t2 as2 H20 F20 hR20 nw20 ht2 nt2 hT20 => ?_⟩)
            have keep20 : ∀ x o, x ≠ lr → x ∉ as → H19 x = some o → H20 x = some o := fun x o n1 n2 e => F20 x o (.inl ⟨n1, n2⟩) (up_new hlh e)
            have m20 : HeapAt H20 lm bs2 (rowsW k vs cs).2 := (m19.same (same_new (o := .lst (vs.map V.int)) hlh)).fr F20 T17.n1.symm T17.n3 lrb2 (fun x hx w => asb2 x w hx)
            obtain ⟨o2, ho2, no2⟩ := (d18.same S19).obj
            have npr := r19.other ho2 no2
            have d20 : StD Z.K H20 p := ((d18.same S19).new (o := .lst (vs.map V.int)) hlh).keep fun x o z e => by
              rcases z with z | z
              · subst z; exact F20 _ _ (.inl npr) e
              · exact F20 _ _ (.inr z) e
            have hlh20 : H20 lh = some (.lst (vs.map V.int)) := F20 _ _ (.inl fr) upd_same
            have hv20 := keep20 _ _ fv.1 fv.2 hv19
            have nlrt : t ≠ lr := fun w => by rw [w, r19.top] at ht19; cases ht19
            have nast : t ∉ as := fun w => by
              obtain ⟨j, hj⟩ := List.mem_iff_getElem?.mp w
              obtain ⟨c, _, e⟩ := r19.row j t hj
              rw [ht19] at e; cases e
            have ht20 := keep20 _ _ nlrt nast ht19
            have T20 : Two Z.K H20 p lr lm as2 bs2 (rowsW k vs cs).2 := by
              refine ⟨d20, hR20, m20, T17.n1, lrb2, fun z => ?_, fun x hx z => ?_⟩
              · rcases nw20 lm z with w | w
                · exact T17.n3 w
                · rw [up_new hlh m19.top] at w; cases w
              · rcases nw20 x hx with w | w
                · exact asb2 x w z
                · obtain ⟨j, hj⟩ := List.mem_iff_getElem?.mp z
                  obtain ⟨c, _, e⟩ := m19.row j x hj
                  rw [up_new hlh e] at w; cases w
            walk_at "zz"
            refine s_isi (bb := true) (.ty "tuple") (.base (.tup hT20)) (kit_ty (by decide +kernel)) ?_
            walk_at "zz"
            obtain ⟨z, ez⟩ : ∃ z, atI (rowsW k vs cs).1.vs 1 = some (.int z) := by
              cases (rowsW k vs cs).1 with
              | ok v => exact ⟨v, rfl⟩
              | flt s => exact ⟨0, rfl⟩
            refine s_ix_t (SqT.of hT20) ez ?_
            walk_at "zz"
            refine s_isi (bb := false) (.ty "bool") (.base (.int z)) (kit_ty (by decide +kernel)) ?_
            have sh := woD_sh fine
            walk_at "zz"
            refine s_ne_d (woD_dp hT20) (woD_dp ht20) (sh.shaped (by decide)) (sh.shaped (by decide)) ?_
            walk_at "zz"
            refine s_ifkf (by rw [sh.refl]; rfl) ?_
            have sv : Sh 1 (.list (vs.map PyData.int)) := Sh.list (sh_ints vs)
            walk_at "zz"
            refine s_ne_d (.lst (SqL.of hlh20) (dp_ints vs)) (.lst (SqL.of hv20) (dp_ints vs)) (sv.shaped (by decide)) (sv.shaped (by decide)) ?_
            walk_at "zz"
            refine s_ifkf (by rw [sv.refl]; rfl) ?_
            have sc := heap_sh (rowsW k vs cs).2
            walk_at "zz"
            refine s_ne_d (heap_dp T20.r) (heap_dp T20.m) (sc.shaped (by decide)) (sc.shaped (by decide)) ?_
            walk_at "zz"
            refine s_ifkf (by rw [sc.refl]; rfl) ?_
            walk_at "zz"
            exact ⟨as2, bs2, _, _, _, _, _, _, _, _, _, _, _, T20, rowsW_few hF, Nat.lt_of_lt_of_le hpos rowsW_len, rfl⟩
      · rintro σ' H7 ⟨as, bs, cs, x3, x5, x6, x7, x8, x9, x10, x11, x12, x13, T7, hF, hpos, rfl⟩
        have sc := heap_sh cs
        walk_at "zz"
        refine s_eq_d (heap_dp T7.r) (heap_dp T7.m) (sc.shaped (by decide)) (sc.shaped (by decide)) ?_
        rw [sc.refl]
        exact q _

theorem sc_summed : FnScope nm_summed ["kind", "one", "other"] (defScope st_summed) := ⟨rfl, rfl, rfl, by decide +kernel, rfl, by decide +kernel, by decide +kernel⟩
theorem ok_summed {P : Program} {w : World} {base : Heap} {Z : Adr} (T : Top Z)  : FnOk P w Z.K Z.mg base (L2.CX P w) 1 Z.f_summed Z.d_summed ["kind", "one", "other"] (sp_summed Z) := by
  refine FnOk.mono (T.F_summed.okX (k := 0) sc_summed (fun vs H Q E h => ?_) (fun cdv A outer s H vs Q E hr h => ?_)) (by decide)
  · obtain ⟨a0, a1, a2, rfl, _⟩ := h; rfl
  · obtain ⟨a0, a1, a2, rfl, h⟩ := h
    have tk : Takes (cxOf (L2.CX P w) P w Z.K Z.mg base nm_summed "summed" (defScope st_summed) Z.f_summed cdv A outer s H E) (fun cls d _ H => E cls d H) := takes_of rfl rfl rfl rfl
    have po : PassesOwn (model P w) (cxOf (L2.CX P w) P w Z.K Z.mg base nm_summed "summed" (defScope st_summed) Z.f_summed cdv A outer s H E).A (cxOf (L2.CX P w) P w Z.K Z.mg base nm_summed "summed" (defScope st_summed) Z.f_summed cdv A outer s H E).env (cxOf (L2.CX P w) P w Z.K Z.mg base nm_summed "summed" (defScope st_summed) Z.f_summed cdv A outer s H E).xe := passes_of rfl
    refine ⟨t_summed Z (fun cls d _ H => E cls d H), ?_, rd_summed T h⟩
    exact (C8.pss_cut (ps_if (pt_cmpR (op_eqU (hr.units)) (pv 0) (pe_glob rfl T.g_ADD ⟨_, rfl⟩) (nomark _)) (pss_one (ps_set (i := 3) sc_summed.nd rfl (Or.inl rfl) (pe_op op_addU (pv 1) (pv 2)))) (pss_one (ps_if (pt_cmpR (op_eqU (hr.units)) (pv 0) (pe_glob rfl T.g_SUB ⟨_, rfl⟩) (nomark _)) (pss_one (ps_set (i := 3) sc_summed.nd rfl (Or.inl rfl) (pe_op op_sub (pv 1) (pv 2)))) (pss_one (ps_set (i := 3) sc_summed.nd rfl (Or.inl rfl) (pe_op op_ml (pv 1) (pv 2)))))))
      (pss_cons (ps_if (pt_cmpR op_gt (pe_callB call_len' (by rfl) T.n_len (by decide +kernel) (pa_cons (pe_callTy call_str' (by rfl) T.n_str (by decide +kernel) (pa_cons (pe_callB call_abs' (by rfl) T.n_abs (by decide +kernel) (pa_cons (pv 3) pa_nil)) pa_nil)) pa_nil)) (pe_glob rfl T.g_MOST_FIGURES ⟨_, rfl⟩) (nomark _)) (pss_one (ps_ret (pe_tup (pa_cons pe_str (pa_cons pe_int pa_nil))))) pss_nil)
      (pss_one (ps_ret (pe_tup (pa_cons pe_non (pa_cons (pv 3) pa_nil)))))))

theorem sc_parted_by : FnScope nm_parted_by ["kind", "one", "other"] (defScope st_parted_by) := ⟨rfl, rfl, rfl, by decide +kernel, rfl, by decide +kernel, by decide +kernel⟩
theorem ok_parted_by {P : Program} {w : World} {base : Heap} {Z : Adr} (T : Top Z)  : FnOk P w Z.K Z.mg base (L2.CX P w) 1 Z.f_parted_by Z.d_parted_by ["kind", "one", "other"] (sp_parted_by Z) := by
  refine FnOk.mono (T.F_parted_by.okX (k := 0) sc_parted_by (fun vs H Q E h => ?_) (fun cdv A outer s H vs Q E hr h => ?_)) (by decide)
  · obtain ⟨a0, a1, a2, rfl, _⟩ := h; rfl
  · obtain ⟨a0, a1, a2, rfl, h⟩ := h
    have tk : Takes (cxOf (L2.CX P w) P w Z.K Z.mg base nm_parted_by "parted_by" (defScope st_parted_by) Z.f_parted_by cdv A outer s H E) (fun cls d _ H => E cls d H) := takes_of rfl rfl rfl rfl
    have po : PassesOwn (model P w) (cxOf (L2.CX P w) P w Z.K Z.mg base nm_parted_by "parted_by" (defScope st_parted_by) Z.f_parted_by cdv A outer s H E).A (cxOf (L2.CX P w) P w Z.K Z.mg base nm_parted_by "parted_by" (defScope st_parted_by) Z.f_parted_by cdv A outer s H E).env (cxOf (L2.CX P w) P w Z.K Z.mg base nm_parted_by "parted_by" (defScope st_parted_by) Z.f_parted_by cdv A outer s H E).xe := passes_of rfl
    refine ⟨t_parted_by Z (fun cls d _ H => E cls d H), ?_, rd_parted_by T h⟩
    exact (pss_cons (ps_if (pt_cmpR (op_eqU (hr.units)) (pv 2) pe_int (nomark _)) (pss_one (ps_ret (pe_tup (pa_cons pe_str (pa_cons pe_int pa_nil))))) pss_nil)
      (pss_cons (ps_if (pt_cmpR (op_eqU (hr.units)) (pv 0) (pe_glob rfl T.g_QUO ⟨_, rfl⟩) (nomark _)) (pss_one (ps_ret (pe_tup (pa_cons pe_non (pa_cons (pe_op op_fdv (pv 1) (pv 2)) pa_nil))))) pss_nil)
      (pss_one (ps_ret (pe_tup (pa_cons pe_non (pa_cons (pe_op op_md (pv 1) (pv 2)) pa_nil)))))))

theorem sc_of_numbers : FnScope nm_of_numbers ["kind", "values"] (defScope st_of_numbers) := ⟨rfl, rfl, rfl, by decide +kernel, rfl, by decide +kernel, by decide +kernel⟩
theorem ok_of_numbers {P : Program} {w : World} {base : Heap} {Z : Adr} (T : Top Z) (G_summed : FnOk P w Z.K Z.mg base (L2.CX P w) 1 Z.f_summed Z.d_summed ["kind", "one", "other"] (sp_summed Z)) (G_parted_by : FnOk P w Z.K Z.mg base (L2.CX P w) 1 Z.f_parted_by Z.d_parted_by ["kind", "one", "other"] (sp_parted_by Z)) : FnOk P w Z.K Z.mg base (L2.CX P w) 2 Z.f_of_numbers Z.d_of_numbers ["kind", "values"] (sp_of_numbers Z) := by
  refine FnOk.mono (T.F_of_numbers.okX (k := 1) sc_of_numbers (fun vs H Q E h => ?_) (fun cdv A outer s H vs Q E hr h => ?_)) (by decide)
  · obtain ⟨a0, a1, rfl, _⟩ := h; rfl
  · obtain ⟨a0, a1, rfl, h⟩ := h
    have tk : Takes (cxOf (L2.CX P w) P w Z.K Z.mg base nm_of_numbers "of_numbers" (defScope st_of_numbers) Z.f_of_numbers cdv A outer s H E) (fun cls d _ H => E cls d H) := takes_of rfl rfl rfl rfl
    have po : PassesOwn (model P w) (cxOf (L2.CX P w) P w Z.K Z.mg base nm_of_numbers "of_numbers" (defScope st_of_numbers) Z.f_of_numbers cdv A outer s H E).A (cxOf (L2.CX P w) P w Z.K Z.mg base nm_of_numbers "of_numbers" (defScope st_of_numbers) Z.f_of_numbers cdv A outer s H E).env (cxOf (L2.CX P w) P w Z.K Z.mg base nm_of_numbers "of_numbers" (defScope st_of_numbers) Z.f_of_numbers cdv A outer s H E).xe := passes_of rfl
    refine ⟨t_of_numbers Z (fun cls d _ H => E cls d H), ?_, rd_of_numbers T h⟩
    exact (pss_cons (ps_asg (pv 1) (pg_un rfl (pgs_cons (pg_name (i := 2) sc_of_numbers.nd rfl (Or.inl rfl)) (pgs_cons (pg_name (i := 3) sc_of_numbers.nd rfl (Or.inl rfl)) pgs_nil))))
      (pss_cons (ps_if (pt_cmpR op_in_seq (pv 0) (pe_tup (pa_cons (pe_glob rfl T.g_ADD ⟨_, rfl⟩) (pa_cons (pe_glob rfl T.g_SUB ⟨_, rfl⟩) (pa_cons (pe_glob rfl T.g_MUL ⟨_, rfl⟩) pa_nil)))) (by rfl)) (pss_one (ps_ret (pe_callS G_summed (hr.mono (by decide)) rfl T.m_summed T.k_summed T.b_summed (fun σ => passAt tk σ) (pa_cons (pv 0) (pa_cons (pv 2) (pa_cons (pv 3) pa_nil)))))) pss_nil)
      (pss_cons (ps_if (pt_cmpR op_in_seq (pv 0) (pe_tup (pa_cons (pe_glob rfl T.g_QUO ⟨_, rfl⟩) (pa_cons (pe_glob rfl T.g_REST ⟨_, rfl⟩) pa_nil))) (by rfl)) (pss_one (ps_ret (pe_callS G_parted_by (hr.mono (by decide)) rfl T.m_parted_by T.k_parted_by T.b_parted_by (fun σ => passAt tk σ) (pa_cons (pv 0) (pa_cons (pv 2) (pa_cons (pv 3) pa_nil)))))) pss_nil)
      (pss_cons (ps_if (pt_cmpR (op_eqU (hr.units)) (pv 0) (pe_glob rfl T.g_LESS ⟨_, rfl⟩) (nomark _)) (pss_one (ps_ret (pe_tup (pa_cons pe_non (pa_cons (pe_callTy call_int' (by rfl) T.n_int (by decide +kernel) (pa_cons (pe_cmpR op_lt (pv 2) (pv 3) (nomark _)) pa_nil)) pa_nil))))) pss_nil)
      (pss_one (ps_ret (pe_tup (pa_cons pe_non (pa_cons (pe_callTy call_int' (by rfl) T.n_int (by decide +kernel) (pa_cons (pe_cmpR (op_eqU (hr.units)) (pv 2) (pv 3) (nomark _)) pa_nil)) pa_nil)))))))))

theorem sc_of_row : FnScope nm_of_row ["kind", "values", "row"] (defScope st_of_row) := ⟨rfl, rfl, rfl, by decide +kernel, rfl, by decide +kernel, by decide +kernel⟩
theorem ok_of_row {P : Program} {w : World} {base : Heap} {Z : Adr} (T : Top Z)  : FnOk P w Z.K Z.mg base (L2.CX P w) 1 Z.f_of_row Z.d_of_row ["kind", "values", "row"] (sp_of_row Z) := by
  refine FnOk.mono (T.F_of_row.okX (k := 0) sc_of_row (fun vs H Q E h => ?_) (fun cdv A outer s H vs Q E hr h => ?_)) (by decide)
  · obtain ⟨a0, a1, a2, rfl, _⟩ := h; rfl
  · obtain ⟨a0, a1, a2, rfl, h⟩ := h
    have tk : Takes (cxOf (L2.CX P w) P w Z.K Z.mg base nm_of_row "of_row" (defScope st_of_row) Z.f_of_row cdv A outer s H E) (fun cls d _ H => E cls d H) := takes_of rfl rfl rfl rfl
    have po : PassesOwn (model P w) (cxOf (L2.CX P w) P w Z.K Z.mg base nm_of_row "of_row" (defScope st_of_row) Z.f_of_row cdv A outer s H E).A (cxOf (L2.CX P w) P w Z.K Z.mg base nm_of_row "of_row" (defScope st_of_row) Z.f_of_row cdv A outer s H E).env (cxOf (L2.CX P w) P w Z.K Z.mg base nm_of_row "of_row" (defScope st_of_row) Z.f_of_row cdv A outer s H E).xe := passes_of rfl
    refine ⟨t_of_row Z (fun cls d _ H => E cls d H), ?_, rd_of_row T h⟩
    exact (pss_cons (ps_if (pt_cmpR (op_eqU (hr.units)) (pv 0) (pe_glob rfl T.g_SIZE ⟨_, rfl⟩) (nomark _)) (pss_one (ps_ret (pe_tup (pa_cons pe_non (pa_cons (pe_callB call_len' (by rfl) T.n_len (by decide +kernel) (pa_cons (pv 2) pa_nil)) pa_nil))))) pss_nil)
      (pss_cons (ps_if (pt_cmpR (op_eqU (hr.units)) (pv 0) (pe_glob rfl T.g_PUSH ⟨_, rfl⟩) (nomark _)) (pss_cons (ps_expr (pe_bm PySem.F.plainAttrs_list PySem.F.slot_list_append PySem.F.type_list_append mt_append (pv 2) (pa_cons (pe_ix ix_seq (pv 1) pe_int (fun _ _ => rfl)) pa_nil)))
      (pss_one (ps_ret (pe_tup (pa_cons pe_non (pa_cons (pe_ix ix_seq (pv 1) pe_int (fun _ _ => rfl)) pa_nil)))))) pss_nil)
      (pss_cons (ps_if (pt_not (pt_chain op_le op_lt pe_int (pe_ix ix_seq (pv 1) pe_int (fun _ _ => rfl)) (pe_callB call_len' (by rfl) T.n_len (by decide +kernel) (pa_cons (pv 2) pa_nil)))) (pss_one (ps_ret (pe_tup (pa_cons pe_str (pa_cons pe_int pa_nil))))) pss_nil)
      (pss_cons (ps_if (pt_cmpR (op_eqU (hr.units)) (pv 0) (pe_glob rfl T.g_AT ⟨_, rfl⟩) (nomark _)) (pss_one (ps_ret (pe_tup (pa_cons pe_non (pa_cons (pe_ix ix_seq (pv 2) (pe_ix ix_seq (pv 1) pe_int (fun _ _ => rfl)) (fun _ _ => rfl)) pa_nil))))) pss_nil)
      (pss_cons (ps_asg (pe_ix ix_seq (pv 1) pe_int (fun _ _ => rfl)) (pg_sub (pv 2) (pe_ix ix_seq (pv 1) pe_int (fun _ _ => rfl)) set_list))
      (pss_one (ps_ret (pe_tup (pa_cons pe_non (pa_cons (pe_ix ix_seq (pv 1) pe_int (fun _ _ => rfl)) pa_nil))))))))))

theorem sc_worth : FnScope nm_worth ["kind", "values", "rows"] (defScope st_worth) := ⟨rfl, rfl, rfl, by decide +kernel, rfl, by decide +kernel, by decide +kernel⟩
theorem ok_worth {P : Program} {w : World} {base : Heap} {Z : Adr} (T : Top Z) (G_of_numbers : FnOk P w Z.K Z.mg base (L2.CX P w) 2 Z.f_of_numbers Z.d_of_numbers ["kind", "values"] (sp_of_numbers Z)) (G_of_row : FnOk P w Z.K Z.mg base (L2.CX P w) 1 Z.f_of_row Z.d_of_row ["kind", "values", "row"] (sp_of_row Z)) : FnOk P w Z.K Z.mg base (L2.CX P w) 3 Z.f_worth Z.d_worth ["kind", "values", "rows"] (sp_worth Z) := by
  refine FnOk.mono (T.F_worth.okX (k := 2) sc_worth (fun vs H Q E h => ?_) (fun cdv A outer s H vs Q E hr h => ?_)) (by decide)
  · obtain ⟨a0, a1, a2, rfl, _⟩ := h; rfl
  · obtain ⟨a0, a1, a2, rfl, h⟩ := h
    have tk : Takes (cxOf (L2.CX P w) P w Z.K Z.mg base nm_worth "worth" (defScope st_worth) Z.f_worth cdv A outer s H E) (fun cls d _ H => E cls d H) := takes_of rfl rfl rfl rfl
    have po : PassesOwn (model P w) (cxOf (L2.CX P w) P w Z.K Z.mg base nm_worth "worth" (defScope st_worth) Z.f_worth cdv A outer s H E).A (cxOf (L2.CX P w) P w Z.K Z.mg base nm_worth "worth" (defScope st_worth) Z.f_worth cdv A outer s H E).env (cxOf (L2.CX P w) P w Z.K Z.mg base nm_worth "worth" (defScope st_worth) Z.f_worth cdv A outer s H E).xe := passes_of rfl
    refine ⟨t_worth Z (fun cls d _ H => E cls d H), ?_, rd_worth T h⟩
    exact (pss_cons (ps_if (pt_cmpR op_le (pv 0) (pe_glob rfl T.g_SAME ⟨_, rfl⟩) (nomark _)) (pss_one (ps_ret (pe_callS G_of_numbers (hr.mono (by decide)) rfl T.m_of_numbers T.k_of_numbers T.b_of_numbers (fun σ => passAt tk σ) (pa_cons (pv 0) (pa_cons (pv 1) pa_nil))))) pss_nil)
      (pss_cons (ps_if (pt_cmpR op_gt (pv 0) (pe_glob rfl T.g_SIZE ⟨_, rfl⟩) (nomark _)) (pss_cons (ps_expr (pe_bm PySem.F.plainAttrs_list PySem.F.slot_list_append PySem.F.type_list_append mt_append (pv 2) (pa_cons (pe_lst pa_nil) pa_nil)))
      (pss_one (ps_ret (pe_tup (pa_cons pe_non (pa_cons (pe_op op_sub (pe_callB call_len' (by rfl) T.n_len (by decide +kernel) (pa_cons (pv 2) pa_nil)) pe_int) pa_nil)))))) pss_nil)
      (pss_cons (ps_if (pt_not (pt_chain op_le op_lt pe_int (pe_ix ix_seq (pv 1) pe_int (fun _ _ => rfl)) (pe_callB call_len' (by rfl) T.n_len (by decide +kernel) (pa_cons (pv 2) pa_nil)))) (pss_one (ps_ret (pe_tup (pa_cons pe_str (pa_cons pe_int pa_nil))))) pss_nil)
      (pss_one (ps_ret (pe_callS G_of_row (hr.mono (by decide)) rfl T.m_of_row T.k_of_row T.b_of_row (fun σ => passAt tk σ) (pa_cons (pv 0) (pa_cons (pv 1) (pa_cons (pe_ix ix_seq (pv 2) (pe_ix ix_seq (pv 1) pe_int (fun _ _ => rfl)) (fun _ _ => rfl)) pa_nil)))))))))

theorem sc_Lbegin : FnScope nm_Lbegin ["_law_script"] (defScope st_Lbegin) := ⟨rfl, rfl, rfl, by decide +kernel, rfl, by decide +kernel, by decide +kernel⟩
theorem ok_Lbegin {P : Program} {w : World} {base : Heap} {Z : Adr} (T : Top Z)  : FnOk P w Z.K Z.mg base (L2.CX P w) 1 Z.f_Lbegin Z.d_Lbegin ["_law_script"] (sp_Lbegin Z) := by
  refine FnOk.mono (T.F_Lbegin.okX (k := 0) sc_Lbegin (fun vs H Q E h => ?_) (fun cdv A outer s H vs Q E hr h => ?_)) (by decide)
  · obtain ⟨a0, rfl, _⟩ := h; rfl
  · obtain ⟨a0, rfl, h⟩ := h
    have tk : Takes (cxOf (L2.CX P w) P w Z.K Z.mg base nm_Lbegin "_law_begin" (defScope st_Lbegin) Z.f_Lbegin cdv A outer s H E) (fun cls d _ H => E cls d H) := takes_of rfl rfl rfl rfl
    have po : PassesOwn (model P w) (cxOf (L2.CX P w) P w Z.K Z.mg base nm_Lbegin "_law_begin" (defScope st_Lbegin) Z.f_Lbegin cdv A outer s H E).A (cxOf (L2.CX P w) P w Z.K Z.mg base nm_Lbegin "_law_begin" (defScope st_Lbegin) Z.f_Lbegin cdv A outer s H E).env (cxOf (L2.CX P w) P w Z.K Z.mg base nm_Lbegin "_law_begin" (defScope st_Lbegin) Z.f_Lbegin cdv A outer s H E).xe := passes_of rfl
    refine ⟨t_Lbegin Z (fun cls d _ H => E cls d H), ?_, rd_Lbegin T h⟩
    exact (pss_one (ps_ret (pe_disp (pps_cons pe_str (pv 0) (pps_cons pe_str pe_int (pps_cons pe_str pe_int pps_nil))) (by rfl) (by rfl) (fun z => by cases z) (by decide))))

theorem sc_Lmixed : FnScope nm_Lmixed ["_law_cell", "_law_k"] (defScope st_Lmixed) := ⟨rfl, rfl, rfl, by decide +kernel, rfl, by decide +kernel, by decide +kernel⟩
theorem ok_Lmixed {P : Program} {w : World} {base : Heap} {Z : Adr} (T : Top Z)  : FnOk P w Z.K Z.mg base (L2.CX P w) 1 Z.f_Lmixed Z.d_Lmixed ["_law_cell", "_law_k"] (sp_Lmixed Z) := by
  refine FnOk.mono (T.F_Lmixed.okX (k := 0) sc_Lmixed (fun vs H Q E h => ?_) (fun cdv A outer s H vs Q E hr h => ?_)) (by decide)
  · obtain ⟨a0, a1, rfl, _⟩ := h; rfl
  · obtain ⟨a0, a1, rfl, h⟩ := h
    have tk : Takes (cxOf (L2.CX P w) P w Z.K Z.mg base nm_Lmixed "_law_mixed" (defScope st_Lmixed) Z.f_Lmixed cdv A outer s H E) (fun cls d _ H => E cls d H) := takes_of rfl rfl rfl rfl
    have po : PassesOwn (model P w) (cxOf (L2.CX P w) P w Z.K Z.mg base nm_Lmixed "_law_mixed" (defScope st_Lmixed) Z.f_Lmixed cdv A outer s H E).A (cxOf (L2.CX P w) P w Z.K Z.mg base nm_Lmixed "_law_mixed" (defScope st_Lmixed) Z.f_Lmixed cdv A outer s H E).env (cxOf (L2.CX P w) P w Z.K Z.mg base nm_Lmixed "_law_mixed" (defScope st_Lmixed) Z.f_Lmixed cdv A outer s H E).xe := passes_of rfl
    refine ⟨t_Lmixed Z (fun cls d _ H => E cls d H), ?_, rd_Lmixed T h⟩
    exact (pss_cons (ps_set (i := 2) sc_Lmixed.nd rfl (Or.inl rfl) (pe_op op_md (pe_op op_ml (pe_op op_addU (pe_op op_addU (pe_op op_md (pv 0) pe_int) (pe_op op_ml pe_int (pv 1))) pe_int) pe_int) pe_int))
      (pss_cons (ps_set (i := 3) sc_Lmixed.nd rfl (Or.inl rfl) (pe_op op_md (pe_op op_addU (pe_op op_addU (pe_op op_ml (pv 2) (pv 2)) (pe_op op_ml pe_int (pv 2))) (pv 1)) pe_int))
      (pss_one (ps_ret (pe_op op_fdv (pe_op op_md (pe_op op_addU (pe_op op_addU (pe_op op_ml (pv 3) (pv 3)) (pe_op op_ml pe_int (pv 3))) (pe_op op_ml pe_int (pv 1))) pe_int) pe_int)))))

theorem sc_Ltake : FnScope nm_Ltake ["_law_state", "_law_most"] (defScope st_Ltake) := ⟨rfl, rfl, rfl, by decide +kernel, rfl, by decide +kernel, by decide +kernel⟩
theorem ok_Ltake {P : Program} {w : World} {base : Heap} {Z : Adr} (T : Top Z) (G_Lmixed : FnOk P w Z.K Z.mg base (L2.CX P w) 1 Z.f_Lmixed Z.d_Lmixed ["_law_cell", "_law_k"] (sp_Lmixed Z)) : FnOk P w Z.K Z.mg base (L2.CX P w) 2 Z.f_Ltake Z.d_Ltake ["_law_state", "_law_most"] (sp_Ltake Z) := by
  refine FnOk.mono (T.F_Ltake.okX (k := 1) sc_Ltake (fun vs H Q E h => ?_) (fun cdv A outer s H vs Q E hr h => ?_)) (by decide)
  · obtain ⟨a0, a1, rfl, _⟩ := h; rfl
  · obtain ⟨a0, a1, rfl, h⟩ := h
    have tk : Takes (cxOf (L2.CX P w) P w Z.K Z.mg base nm_Ltake "_law_take" (defScope st_Ltake) Z.f_Ltake cdv A outer s H E) (fun cls d _ H => E cls d H) := takes_of rfl rfl rfl rfl
    have po : PassesOwn (model P w) (cxOf (L2.CX P w) P w Z.K Z.mg base nm_Ltake "_law_take" (defScope st_Ltake) Z.f_Ltake cdv A outer s H E).A (cxOf (L2.CX P w) P w Z.K Z.mg base nm_Ltake "_law_take" (defScope st_Ltake) Z.f_Ltake cdv A outer s H E).env (cxOf (L2.CX P w) P w Z.K Z.mg base nm_Ltake "_law_take" (defScope st_Ltake) Z.f_Ltake cdv A outer s H E).xe := passes_of rfl
    refine ⟨t_Ltake Z (fun cls d _ H => E cls d H), ?_, rd_Ltake T h⟩
    exact (pss_cons (ps_set (i := 2) sc_Ltake.nd rfl (Or.inl rfl) (pe_dget (hu_of hr) (pv 0) pe_str (fun _ _ => rfl)))
      (pss_cons (ps_set (i := 3) sc_Ltake.nd rfl (Or.inl rfl) (pe_dget (hu_of hr) (pv 0) pe_str (fun _ _ => rfl)))
      (C8.pss_cut (ps_if (pt_cmpR (op_eqU (hr.units)) (pe_dget (hu_of hr) (pv 0) pe_str (fun _ _ => rfl)) pe_int (nomark _)) (pss_cons (ps_dput (hu_of hr) (pv 0) pe_str (pe_op op_addU (pv 3) pe_int) rfl)
      (pss_cons (ps_set (i := 4) sc_Ltake.nd rfl (Or.inl rfl) pe_int)
      (C8.pss_cut (ps_if (pt_cmpR op_gt (pe_callB call_len' (by rfl) T.n_len (by decide +kernel) (pa_cons (pv 2) pa_nil)) pe_int (nomark _)) (pss_one (ps_set (i := 4) sc_Ltake.nd rfl (Or.inl rfl) (pe_ix ix_seq (pv 2) (pe_op op_md (pv 3) (pe_callB call_len' (by rfl) T.n_len (by decide +kernel) (pa_cons (pv 2) pa_nil))) (fun _ _ => rfl)))) pss_nil)
      (pss_cons (ps_if (PW.pt (pw_or (pt_cmpR op_ge (pv 3) (pe_callB call_len' (by rfl) T.n_len (by decide +kernel) (pa_cons (pv 2) pa_nil)) (nomark _)) (pw_or1 (pt_cmpR op_lt (pe_callB call_abs' (by rfl) T.n_abs (by decide +kernel) (pa_cons (pv 4) pa_nil)) (pe_powc (by unfold CPow; decide) (by decide +kernel)) (nomark _))))) (pss_one (ps_ret (pe_op op_md (pe_callS G_Lmixed (hr.mono (by decide)) rfl T.m_Lmixed T.k_Lmixed T.b_Lmixed (fun σ => passAt tk σ) (pa_cons (pv 4) (pa_cons (pv 3) pa_nil))) (pv 1)))) pss_nil)
      (pss_one (ps_dput (hu_of hr) (pv 0) pe_str (pe_callB call_abs' (by rfl) T.n_abs (by decide +kernel) (pa_cons (pv 4) pa_nil)) rfl)))))) pss_nil)
      (pss_cons (ps_set (i := 5) sc_Ltake.nd rfl (Or.inl rfl) (pe_op op_md (pe_dget (hu_of hr) (pv 0) pe_str (fun _ _ => rfl)) (pv 1)))
      (pss_cons (ps_dput (hu_of hr) (pv 0) pe_str (pe_op op_fdv (pe_dget (hu_of hr) (pv 0) pe_str (fun _ _ => rfl)) (pv 1)) rfl)
      (pss_one (ps_ret (pv 5))))))))

theorem sc_Lnumber : FnScope nm_Lnumber ["_law_state"] (defScope st_Lnumber) := ⟨rfl, rfl, rfl, by decide +kernel, rfl, by decide +kernel, by decide +kernel⟩
theorem ok_Lnumber {P : Program} {w : World} {base : Heap} {Z : Adr} (T : Top Z) (G_Ltake : FnOk P w Z.K Z.mg base (L2.CX P w) 2 Z.f_Ltake Z.d_Ltake ["_law_state", "_law_most"] (sp_Ltake Z)) : FnOk P w Z.K Z.mg base (L2.CX P w) 3 Z.f_Lnumber Z.d_Lnumber ["_law_state"] (sp_Lnumber Z) := by
  refine FnOk.mono (T.F_Lnumber.okX (k := 2) sc_Lnumber (fun vs H Q E h => ?_) (fun cdv A outer s H vs Q E hr h => ?_)) (by decide)
  · obtain ⟨a0, rfl, _⟩ := h; rfl
  · obtain ⟨a0, rfl, h⟩ := h
    have tk : Takes (cxOf (L2.CX P w) P w Z.K Z.mg base nm_Lnumber "_law_number" (defScope st_Lnumber) Z.f_Lnumber cdv A outer s H E) (fun cls d _ H => E cls d H) := takes_of rfl rfl rfl rfl
    have po : PassesOwn (model P w) (cxOf (L2.CX P w) P w Z.K Z.mg base nm_Lnumber "_law_number" (defScope st_Lnumber) Z.f_Lnumber cdv A outer s H E).A (cxOf (L2.CX P w) P w Z.K Z.mg base nm_Lnumber "_law_number" (defScope st_Lnumber) Z.f_Lnumber cdv A outer s H E).env (cxOf (L2.CX P w) P w Z.K Z.mg base nm_Lnumber "_law_number" (defScope st_Lnumber) Z.f_Lnumber cdv A outer s H E).xe := passes_of rfl
    refine ⟨t_Lnumber Z (fun cls d _ H => E cls d H), ?_, rd_Lnumber T h⟩
    exact (pss_cons (ps_set (i := 1) sc_Lnumber.nd rfl (Or.inl rfl) (pe_callS G_Ltake (hr.mono (by decide)) rfl T.m_Ltake T.k_Ltake T.b_Ltake (fun σ => passAt tk σ) (pa_cons (pv 0) (pa_cons pe_int pa_nil))))
      (pss_cons (ps_if (pt_cmpR op_lt (pv 1) pe_int (nomark _)) (pss_one (ps_ret (pe_ix ix_seq (pe_lst (pa_cons pe_int (pa_cons pe_int (pa_cons pe_int (pa_cons pe_int (pa_cons (pe_un un_neg pe_int) (pa_cons pe_int (pa_cons pe_int (pa_cons pe_int (pa_cons (pe_un un_neg pe_int) pa_nil)))))))))) (pv 1) (fun _ _ => rfl)))) pss_nil)
      (pss_cons (ps_if (pt_cmpR (op_eqU (hr.units)) (pv 1) pe_int (nomark _)) (pss_one (ps_ret (pe_op op_sub (pe_callS G_Ltake (hr.mono (by decide)) rfl T.m_Ltake T.k_Ltake T.b_Ltake (fun σ => passAt tk σ) (pa_cons (pv 0) (pa_cons pe_int pa_nil))) pe_int))) pss_nil)
      (pss_cons (ps_set (i := 2) sc_Lnumber.nd rfl (Or.inl rfl) (pe_ix ix_seq (pe_lst (pa_cons (pe_powc (by unfold CPow; decide) (by decide +kernel)) (pa_cons (pe_op op_sub (pe_powc (by unfold CPow; decide) (by decide +kernel)) pe_int) (pa_cons (pe_powc (by unfold CPow; decide) (by decide +kernel)) (pa_cons (pe_powc (by unfold CPow; decide) (by decide +kernel)) pa_nil))))) (pe_callS G_Ltake (hr.mono (by decide)) rfl T.m_Ltake T.k_Ltake T.b_Ltake (fun σ => passAt tk σ) (pa_cons (pv 0) (pa_cons pe_int pa_nil))) (fun _ _ => rfl)))
      (pss_one (ps_ret (pe_op op_sub (pe_op op_ml (pv 2) (pe_ix ix_seq (pe_lst (pa_cons pe_int (pa_cons (pe_un un_neg pe_int) pa_nil))) (pe_op op_sub (pv 1) pe_int) (fun _ _ => rfl))) (pe_op op_ml (pe_callS G_Ltake (hr.mono (by decide)) rfl T.m_Ltake T.k_Ltake T.b_Ltake (fun σ => passAt tk σ) (pa_cons (pv 0) (pa_cons pe_int pa_nil))) (pe_ix ix_seq (pe_lst (pa_cons pe_int (pa_cons (pe_un un_neg pe_int) pa_nil))) (pe_op op_sub (pv 1) pe_int) (fun _ _ => rfl))))))))))

theorem sc_Lcounted : FnScope nm_Lcounted ["_law_kind", "_law_one", "_law_other"] (defScope st_Lcounted) := ⟨rfl, rfl, rfl, by decide +kernel, rfl, by decide +kernel, by decide +kernel⟩
theorem ok_Lcounted {P : Program} {w : World} {base : Heap} {Z : Adr} (T : Top Z)  : FnOk P w Z.K Z.mg base (L2.CX P w) 1 Z.f_Lcounted Z.d_Lcounted ["_law_kind", "_law_one", "_law_other"] (sp_Lcounted Z) := by
  refine FnOk.mono (T.F_Lcounted.okX (k := 0) sc_Lcounted (fun vs H Q E h => ?_) (fun cdv A outer s H vs Q E hr h => ?_)) (by decide)
  · obtain ⟨a0, a1, a2, rfl, _⟩ := h; rfl
  · obtain ⟨a0, a1, a2, rfl, h⟩ := h
    have tk : Takes (cxOf (L2.CX P w) P w Z.K Z.mg base nm_Lcounted "_law_counted" (defScope st_Lcounted) Z.f_Lcounted cdv A outer s H E) (fun cls d _ H => E cls d H) := takes_of rfl rfl rfl rfl
    have po : PassesOwn (model P w) (cxOf (L2.CX P w) P w Z.K Z.mg base nm_Lcounted "_law_counted" (defScope st_Lcounted) Z.f_Lcounted cdv A outer s H E).A (cxOf (L2.CX P w) P w Z.K Z.mg base nm_Lcounted "_law_counted" (defScope st_Lcounted) Z.f_Lcounted cdv A outer s H E).env (cxOf (L2.CX P w) P w Z.K Z.mg base nm_Lcounted "_law_counted" (defScope st_Lcounted) Z.f_Lcounted cdv A outer s H E).xe := passes_of rfl
    refine ⟨t_Lcounted Z (fun cls d _ H => E cls d H), ?_, rd_Lcounted T h⟩
    exact (pss_cons (ps_if (PW.pt (pw_and (pt_cmpR op_in_seq (pv 0) (pe_tup (pa_cons pe_int (pa_cons pe_int pa_nil))) (by rfl)) (pw_and1 (pt_cmpR (op_eqU (hr.units)) (pv 2) pe_int (nomark _))))) (pss_one (ps_ret pe_str)) pss_nil)
      (pss_cons (ps_if (pt_cmpR op_lt (pv 0) pe_int (nomark _)) (pss_cons (ps_set (i := 3) sc_Lcounted.nd rfl (Or.inl rfl) (pe_ix ix_seq (pe_lst (pa_cons (pe_op op_addU (pv 1) (pv 2)) (pa_cons (pe_op op_sub (pv 1) (pv 2)) (pa_cons (pe_op op_ml (pv 1) (pv 2)) pa_nil)))) (pe_op op_sub (pv 0) pe_int) (fun _ _ => rfl)))
      (pss_cons (ps_if (pt_cmpR op_ge (pe_callB call_abs' (by rfl) T.n_abs (by decide +kernel) (pa_cons (pv 3) pa_nil)) (pe_op op_ml (pe_powc (by unfold CPow; decide) (by decide +kernel)) (pe_powc (by unfold CPow; decide) (by decide +kernel))) (nomark _)) (pss_one (ps_ret pe_str)) pss_nil)
      (pss_one (ps_ret (pv 3))))) pss_nil)
      (pss_cons (ps_if (pt_cmpR (op_eqU (hr.units)) (pv 0) pe_int (nomark _)) (pss_one (ps_ret (pe_op op_fdv (pv 1) (pv 2)))) pss_nil)
      (pss_cons (ps_if (pt_cmpR (op_eqU (hr.units)) (pv 0) pe_int (nomark _)) (pss_one (ps_ret (pe_op op_sub (pv 1) (pe_op op_ml (pv 2) (pe_op op_fdv (pv 1) (pv 2)))))) pss_nil)
      (pss_one (ps_ret (pe_ix ix_seq (pe_lst (pa_cons (pe_callTy call_int' (by rfl) T.n_int (by decide +kernel) (pa_cons (pe_cmpR op_lt (pv 1) (pv 2) (nomark _)) pa_nil)) (pa_cons (pe_callTy call_int' (by rfl) T.n_int (by decide +kernel) (pa_cons (pe_cmpR (op_eqU (hr.units)) (pv 1) (pv 2) (nomark _)) pa_nil)) pa_nil))) (pe_op op_sub (pv 0) pe_int) (fun _ _ => rfl))))))))

theorem sc_Ldeed : FnScope nm_Ldeed ["_law_kind", "_law_values", "_law_rows"] (defScope st_Ldeed) := ⟨rfl, rfl, rfl, by decide +kernel, rfl, by decide +kernel, by decide +kernel⟩
theorem ok_Ldeed {P : Program} {w : World} {base : Heap} {Z : Adr} (T : Top Z) (G_Lcounted : FnOk P w Z.K Z.mg base (L2.CX P w) 1 Z.f_Lcounted Z.d_Lcounted ["_law_kind", "_law_one", "_law_other"] (sp_Lcounted Z)) : FnOk P w Z.K Z.mg base (L2.CX P w) 2 Z.f_Ldeed Z.d_Ldeed ["_law_kind", "_law_values", "_law_rows"] (sp_Ldeed Z) := by
  refine FnOk.mono (T.F_Ldeed.okX (k := 1) sc_Ldeed (fun vs H Q E h => ?_) (fun cdv A outer s H vs Q E hr h => ?_)) (by decide)
  · obtain ⟨a0, a1, a2, rfl, _⟩ := h; rfl
  · obtain ⟨a0, a1, a2, rfl, h⟩ := h
    have tk : Takes (cxOf (L2.CX P w) P w Z.K Z.mg base nm_Ldeed "_law_deed" (defScope st_Ldeed) Z.f_Ldeed cdv A outer s H E) (fun cls d _ H => E cls d H) := takes_of rfl rfl rfl rfl
    have po : PassesOwn (model P w) (cxOf (L2.CX P w) P w Z.K Z.mg base nm_Ldeed "_law_deed" (defScope st_Ldeed) Z.f_Ldeed cdv A outer s H E).A (cxOf (L2.CX P w) P w Z.K Z.mg base nm_Ldeed "_law_deed" (defScope st_Ldeed) Z.f_Ldeed cdv A outer s H E).env (cxOf (L2.CX P w) P w Z.K Z.mg base nm_Ldeed "_law_deed" (defScope st_Ldeed) Z.f_Ldeed cdv A outer s H E).xe := passes_of rfl
    refine ⟨t_Ldeed Z (fun cls d _ H => E cls d H), ?_, rd_Ldeed T h⟩
    exact (pss_cons (ps_if (pt_cmpR op_lt (pv 0) pe_int (nomark _)) (pss_one (ps_ret (pe_callS G_Lcounted (hr.mono (by decide)) rfl T.m_Lcounted T.k_Lcounted T.b_Lcounted (fun σ => passAt tk σ) (pa_cons (pv 0) (pa_cons (pe_ix ix_seq (pv 1) pe_int (fun _ _ => rfl)) (pa_cons (pe_ix ix_seq (pv 1) pe_int (fun _ _ => rfl)) pa_nil)))))) pss_nil)
      (pss_cons (ps_if (pt_cmpR (op_eqU (hr.units)) (pv 0) pe_int (nomark _)) (pss_cons (ps_expr (pe_bm PySem.F.plainAttrs_list PySem.F.slot_list_append PySem.F.type_list_append mt_append (pv 2) (pa_cons (pe_lst pa_nil) pa_nil)))
      (pss_one (ps_ret (pe_op op_sub (pe_callB call_len' (by rfl) T.n_len (by decide +kernel) (pa_cons (pv 2) pa_nil)) pe_int)))) pss_nil)
      (pss_cons (ps_if (PW.pt (pw_or (pt_cmpR op_lt (pe_ix ix_seq (pv 1) pe_int (fun _ _ => rfl)) pe_int (nomark _)) (pw_or1 (pt_cmpR op_ge (pe_ix ix_seq (pv 1) pe_int (fun _ _ => rfl)) (pe_callB call_len' (by rfl) T.n_len (by decide +kernel) (pa_cons (pv 2) pa_nil)) (nomark _))))) (pss_one (ps_ret pe_str)) pss_nil)
      (pss_cons (ps_set (i := 3) sc_Ldeed.nd rfl (Or.inl rfl) (pe_ix ix_seq (pv 2) (pe_ix ix_seq (pv 1) pe_int (fun _ _ => rfl)) (fun _ _ => rfl)))
      (pss_cons (ps_if (pt_cmpR (op_eqU (hr.units)) (pv 0) pe_int (nomark _)) (pss_one (ps_ret (pe_callB call_len' (by rfl) T.n_len (by decide +kernel) (pa_cons (pv 3) pa_nil)))) pss_nil)
      (pss_cons (ps_if (pt_cmpR (op_eqU (hr.units)) (pv 0) pe_int (nomark _)) (pss_cons (ps_expr (pe_bm PySem.F.plainAttrs_list PySem.F.slot_list_append PySem.F.type_list_append mt_append (pv 3) (pa_cons (pe_ix ix_seq (pv 1) pe_int (fun _ _ => rfl)) pa_nil)))
      (pss_one (ps_ret (pe_ix ix_seq (pv 1) pe_int (fun _ _ => rfl))))) pss_nil)
      (pss_cons (ps_if (PW.pt (pw_or (pt_cmpR op_lt (pe_ix ix_seq (pv 1) pe_int (fun _ _ => rfl)) pe_int (nomark _)) (pw_or1 (pt_cmpR op_ge (pe_ix ix_seq (pv 1) pe_int (fun _ _ => rfl)) (pe_callB call_len' (by rfl) T.n_len (by decide +kernel) (pa_cons (pv 3) pa_nil)) (nomark _))))) (pss_one (ps_ret pe_str)) pss_nil)
      (C8.pss_cut (ps_if (pt_cmpR (op_eqU (hr.units)) (pv 0) pe_int (nomark _)) (pss_one (ps_asg (pe_ix ix_seq (pv 1) pe_int (fun _ _ => rfl)) (pg_sub (pv 3) (pe_ix ix_seq (pv 1) pe_int (fun _ _ => rfl)) set_list))) pss_nil)
      (pss_one (ps_ret (pe_ix ix_seq (pv 3) (pe_ix ix_seq (pv 1) pe_int (fun _ _ => rfl)) (fun _ _ => rfl))))))))))))

theorem sc_Lrow_number : FnScope nm_Lrow_number ["_law_state", "_law_rows"] (defScope st_Lrow_number) := ⟨rfl, rfl, rfl, by decide +kernel, rfl, by decide +kernel, by decide +kernel⟩
theorem ok_Lrow_number {P : Program} {w : World} {base : Heap} {Z : Adr} (T : Top Z) (G_Ltake : FnOk P w Z.K Z.mg base (L2.CX P w) 2 Z.f_Ltake Z.d_Ltake ["_law_state", "_law_most"] (sp_Ltake Z)) : FnOk P w Z.K Z.mg base (L2.CX P w) 3 Z.f_Lrow_number Z.d_Lrow_number ["_law_state", "_law_rows"] (sp_Lrow_number Z) := by
  refine FnOk.mono (T.F_Lrow_number.okX (k := 2) sc_Lrow_number (fun vs H Q E h => ?_) (fun cdv A outer s H vs Q E hr h => ?_)) (by decide)
  · obtain ⟨a0, a1, rfl, _⟩ := h; rfl
  · obtain ⟨a0, a1, rfl, h⟩ := h
    have tk : Takes (cxOf (L2.CX P w) P w Z.K Z.mg base nm_Lrow_number "_law_row_number" (defScope st_Lrow_number) Z.f_Lrow_number cdv A outer s H E) (fun cls d _ H => E cls d H) := takes_of rfl rfl rfl rfl
    have po : PassesOwn (model P w) (cxOf (L2.CX P w) P w Z.K Z.mg base nm_Lrow_number "_law_row_number" (defScope st_Lrow_number) Z.f_Lrow_number cdv A outer s H E).A (cxOf (L2.CX P w) P w Z.K Z.mg base nm_Lrow_number "_law_row_number" (defScope st_Lrow_number) Z.f_Lrow_number cdv A outer s H E).env (cxOf (L2.CX P w) P w Z.K Z.mg base nm_Lrow_number "_law_row_number" (defScope st_Lrow_number) Z.f_Lrow_number cdv A outer s H E).xe := passes_of rfl
    refine ⟨t_Lrow_number Z (fun cls d _ H => E cls d H), ?_, rd_Lrow_number T h⟩
    exact (pss_cons (ps_if (pt_cmpR (op_eqU (hr.units)) (pe_callS G_Ltake (hr.mono (by decide)) rfl T.m_Ltake T.k_Ltake T.b_Ltake (fun σ => passAt tk σ) (pa_cons (pv 0) (pa_cons pe_int pa_nil))) pe_int (nomark _)) (pss_one (ps_ret (pe_ix ix_seq (pe_lst (pa_cons (pe_un un_neg pe_int) (pa_cons (pe_callB call_len' (by rfl) T.n_len (by decide +kernel) (pa_cons (pv 1) pa_nil)) (pa_cons (pe_powc (by unfold CPow; decide) (by decide +kernel)) (pa_cons (pe_op op_sub pe_int (pe_callB call_len' (by rfl) T.n_len (by decide +kernel) (pa_cons (pv 1) pa_nil))) pa_nil))))) (pe_callS G_Ltake (hr.mono (by decide)) rfl T.m_Ltake T.k_Ltake T.b_Ltake (fun σ => passAt tk σ) (pa_cons (pv 0) (pa_cons pe_int pa_nil))) (fun _ _ => rfl)))) pss_nil)
      (pss_one (ps_ret (pe_callS G_Ltake (hr.mono (by decide)) rfl T.m_Ltake T.k_Ltake T.b_Ltake (fun σ => passAt tk σ) (pa_cons (pv 0) (pa_cons (pe_callB call_len' (by rfl) T.n_len (by decide +kernel) (pa_cons (pv 1) pa_nil)) pa_nil))))))

theorem sc_Lplace : FnScope nm_Lplace ["_law_state", "_law_rows", "_law_number_here"] (defScope st_Lplace) := ⟨rfl, rfl, rfl, by decide +kernel, rfl, by decide +kernel, by decide +kernel⟩
theorem ok_Lplace {P : Program} {w : World} {base : Heap} {Z : Adr} (T : Top Z) (G_Ltake : FnOk P w Z.K Z.mg base (L2.CX P w) 2 Z.f_Ltake Z.d_Ltake ["_law_state", "_law_most"] (sp_Ltake Z)) : FnOk P w Z.K Z.mg base (L2.CX P w) 3 Z.f_Lplace Z.d_Lplace ["_law_state", "_law_rows", "_law_number_here"] (sp_Lplace Z) := by
  refine FnOk.mono (T.F_Lplace.okX (k := 2) sc_Lplace (fun vs H Q E h => ?_) (fun cdv A outer s H vs Q E hr h => ?_)) (by decide)
  · obtain ⟨a0, a1, a2, rfl, _⟩ := h; rfl
  · obtain ⟨a0, a1, a2, rfl, h⟩ := h
    have tk : Takes (cxOf (L2.CX P w) P w Z.K Z.mg base nm_Lplace "_law_place" (defScope st_Lplace) Z.f_Lplace cdv A outer s H E) (fun cls d _ H => E cls d H) := takes_of rfl rfl rfl rfl
    have po : PassesOwn (model P w) (cxOf (L2.CX P w) P w Z.K Z.mg base nm_Lplace "_law_place" (defScope st_Lplace) Z.f_Lplace cdv A outer s H E).A (cxOf (L2.CX P w) P w Z.K Z.mg base nm_Lplace "_law_place" (defScope st_Lplace) Z.f_Lplace cdv A outer s H E).env (cxOf (L2.CX P w) P w Z.K Z.mg base nm_Lplace "_law_place" (defScope st_Lplace) Z.f_Lplace cdv A outer s H E).xe := passes_of rfl
    refine ⟨t_Lplace Z (fun cls d _ H => E cls d H), ?_, rd_Lplace T h⟩
    exact (pss_cons (ps_set (i := 3) sc_Lplace.nd rfl (Or.inl rfl) pe_int)
      (C8.pss_cut (ps_if (pt_chain op_le op_lt pe_int (pv 2) (pe_callB call_len' (by rfl) T.n_len (by decide +kernel) (pa_cons (pv 1) pa_nil))) (pss_one (ps_set (i := 3) sc_Lplace.nd rfl (Or.inl rfl) (pe_callB call_len' (by rfl) T.n_len (by decide +kernel) (pa_cons (pe_ix ix_seq (pv 1) (pv 2) (fun _ _ => rfl)) pa_nil)))) pss_nil)
      (pss_cons (ps_set (i := 4) sc_Lplace.nd rfl (Or.inl rfl) (pe_callS G_Ltake (hr.mono (by decide)) rfl T.m_Ltake T.k_Ltake T.b_Ltake (fun σ => passAt tk σ) (pa_cons (pv 0) (pa_cons pe_int pa_nil))))
      (pss_cons (ps_if (PW.pt (pw_and (pt_cmpR op_lt (pv 4) pe_int (nomark _)) (pw_and1 (pt_cmpR op_gt (pv 3) pe_int (nomark _))))) (pss_one (ps_ret (pe_callS G_Ltake (hr.mono (by decide)) rfl T.m_Ltake T.k_Ltake T.b_Ltake (fun σ => passAt tk σ) (pa_cons (pv 0) (pa_cons (pv 3) pa_nil))))) pss_nil)
      (pss_one (ps_ret (pe_ix ix_seq (pe_lst (pa_cons (pe_un un_neg pe_int) (pa_cons (pv 3) (pa_cons (pe_op op_addU (pv 3) pe_int) (pa_cons (pe_powc (by unfold CPow; decide) (by decide +kernel)) (pa_cons (pe_op op_sub pe_int (pv 3)) (pa_cons pe_int pa_nil))))))) (pv 4) (fun _ _ => rfl))))))))

theorem sc_law : FnScope nm_law ["_law_script"] (defScope st_law) := ⟨rfl, rfl, rfl, by decide +kernel, rfl, by decide +kernel, by decide +kernel⟩
theorem ok_law {P : Program} {w : World} {base : Heap} {Z : Adr} (T : Top Z) (G_Lbegin : FnOk P w Z.K Z.mg base (L2.CX P w) 1 Z.f_Lbegin Z.d_Lbegin ["_law_script"] (sp_Lbegin Z)) (G_Ltake : FnOk P w Z.K Z.mg base (L2.CX P w) 2 Z.f_Ltake Z.d_Ltake ["_law_state", "_law_most"] (sp_Ltake Z)) (G_Lnumber : FnOk P w Z.K Z.mg base (L2.CX P w) 3 Z.f_Lnumber Z.d_Lnumber ["_law_state"] (sp_Lnumber Z)) (G_Lrow_number : FnOk P w Z.K Z.mg base (L2.CX P w) 3 Z.f_Lrow_number Z.d_Lrow_number ["_law_state", "_law_rows"] (sp_Lrow_number Z)) (G_Lplace : FnOk P w Z.K Z.mg base (L2.CX P w) 3 Z.f_Lplace Z.d_Lplace ["_law_state", "_law_rows", "_law_number_here"] (sp_Lplace Z)) (G_Ldeed : FnOk P w Z.K Z.mg base (L2.CX P w) 2 Z.f_Ldeed Z.d_Ldeed ["_law_kind", "_law_values", "_law_rows"] (sp_Ldeed Z)) (G_worth : FnOk P w Z.K Z.mg base (L2.CX P w) 3 Z.f_worth Z.d_worth ["kind", "values", "rows"] (sp_worth Z)) : FnOk P w Z.K Z.mg base (L2.CX P w) 4 Z.f_law Z.d_law ["_law_script"] (sp_law Z) := by
  refine FnOk.mono (T.F_law.okX (k := 3) sc_law (fun vs H Q E h => ?_) (fun cdv A outer s H vs Q E hr h => ?_)) (by decide)
  · obtain ⟨a0, rfl, _⟩ := h; rfl
  · obtain ⟨a0, rfl, h⟩ := h
    have tk : Takes (cxOf (L2.CX P w) P w Z.K Z.mg base nm_law "law" (defScope st_law) Z.f_law cdv A outer s H E) (fun cls d _ H => E cls d H) := takes_of rfl rfl rfl rfl
    have po : PassesOwn (model P w) (cxOf (L2.CX P w) P w Z.K Z.mg base nm_law "law" (defScope st_law) Z.f_law cdv A outer s H E).A (cxOf (L2.CX P w) P w Z.K Z.mg base nm_law "law" (defScope st_law) Z.f_law cdv A outer s H E).env (cxOf (L2.CX P w) P w Z.K Z.mg base nm_law "law" (defScope st_law) Z.f_law cdv A outer s H E).xe := passes_of rfl
    refine ⟨t_law Z (fun cls d _ H => E cls d H), ?_, rd_law T h⟩
    exact (pss_cons (ps_set (i := 1) sc_law.nd rfl (Or.inr rfl) (pe_callS G_Lbegin (hr.mono (by decide)) rfl T.m_Lbegin T.k_Lbegin T.b_Lbegin (fun σ => passAt tk σ) (pa_cons (pv 0) pa_nil)))
      (pss_cons (ps_set (i := 2) sc_law.nd rfl (Or.inl rfl) (pe_lst pa_nil))
      (pss_cons (ps_for po rfl (pi_range1 rfl T.n_range (pa_cons (pe_op op_addU pe_int (pe_callS G_Ltake (hr.mono (by decide)) rfl T.m_Ltake T.k_Ltake T.b_Ltake (fun σ => passAt tk σ) (pa_cons (pv 1) (pa_cons pe_int pa_nil)))) pa_nil)) (pg_name (i := 3) sc_law.nd rfl (Or.inl rfl)) (pss_one (ps_expr (pe_bm PySem.F.plainAttrs_list PySem.F.slot_list_append PySem.F.type_list_append mt_append (pv 2) (pa_cons (pe_lc (own := [(".0", 11), ("_law_j", 12)]) (g := (gName 12)) (tt := tYes) rfl sc_law.nd (pi_range1 rfl T.n_range (pa_cons (pe_callS G_Ltake (hr.mono (by decide)) rfl T.m_Ltake T.k_Ltake T.b_Ltake (fun σ => passAt tk σ) (pa_cons (pv 1) (pa_cons pe_int pa_nil))) pa_nil)) (blkOk_by (own := [(".0", 11), ("_law_j", 12)]) (N := nm_law) (sc := defScope st_law) (by decide +kernel)) (fun _ _ _ _ _ => (pg_name (i := 12) sc_law.nd rfl (Or.inl rfl))) (fun _ _ _ _ _ => pts_nil) (fun _ _ _ _ _ => (pe_callS G_Lnumber (hr.mono (by decide)) rfl T.m_Lnumber T.k_Lnumber T.b_Lnumber passC (pa_cons (pv 1) pa_nil)))) pa_nil)))))
      (pss_cons (ps_setLc (i := 4) (own := [(".0", 11), ("_law_row", 13)]) (g := (gName 13)) (tt := tYes) rfl sc_law.nd rfl rfl (sw_true rfl rfl rfl (by decide +kernel)) (pi_list (pv 2)) (blkOk_by (own := [(".0", 11), ("_law_row", 13)]) (N := nm_law) (sc := defScope st_law) (by decide +kernel)) (fun _ _ _ _ _ => (pg_name (i := 13) sc_law.nd rfl (Or.inl rfl))) (fun _ _ _ _ _ => pts_nil) (fun _ _ _ _ _ => (pe_callTy call_list' (by rfl) T.n_list (by decide +kernel) (pa_cons (pv 13) pa_nil))))
      (pss_cons (ps_for po rfl (pi_range1 rfl T.n_range (pa_cons (pe_callS G_Ltake (hr.mono (by decide)) rfl T.m_Ltake T.k_Ltake T.b_Ltake (fun σ => passAt tk σ) (pa_cons (pv 1) (pa_cons pe_int pa_nil))) pa_nil)) (pg_name (i := 3) sc_law.nd rfl (Or.inl rfl)) (pss_cons (ps_set (i := 5) sc_law.nd rfl (Or.inl rfl) (pe_ix ix_seq (pe_lst (pa_cons pe_int (pa_cons pe_int (pa_cons pe_int (pa_cons pe_int (pa_cons pe_int (pa_cons pe_int (pa_cons pe_int pa_nil)))))))) (pe_callS G_Ltake (hr.mono (by decide)) rfl T.m_Ltake T.k_Ltake T.b_Ltake (fun σ => passAt tk σ) (pa_cons (pv 1) (pa_cons pe_int pa_nil))) (fun _ _ => rfl)))
      (pss_cons (ps_set (i := 6) sc_law.nd rfl (Or.inl rfl) (pe_callS G_Lrow_number (hr.mono (by decide)) rfl T.m_Lrow_number T.k_Lrow_number T.b_Lrow_number (fun σ => passAt tk σ) (pa_cons (pv 1) (pa_cons (pv 2) pa_nil))))
      (pss_cons (ps_set (i := 7) sc_law.nd rfl (Or.inl rfl) (pe_ix ix_seq (pe_lst (pa_cons (pe_lst (pa_cons (pv 6) (pa_cons (pe_callS G_Lnumber (hr.mono (by decide)) rfl T.m_Lnumber T.k_Lnumber T.b_Lnumber (fun σ => passAt tk σ) (pa_cons (pv 1) pa_nil)) pa_nil))) (pa_cons (pe_lst (pa_cons (pv 6) (pa_cons (pe_callS G_Lplace (hr.mono (by decide)) rfl T.m_Lplace T.k_Lplace T.b_Lplace (fun σ => passAt tk σ) (pa_cons (pv 1) (pa_cons (pv 4) (pa_cons (pv 6) pa_nil)))) pa_nil))) (pa_cons (pe_lst pa_nil) (pa_cons (pe_lst (pa_cons (pv 6) pa_nil)) (pa_cons (pe_lst pa_nil) pa_nil)))))) (pe_op op_sub (pv 5) pe_int) (fun _ _ => rfl)))
      (C8.pss_cut (ps_if (pt_cmpR (op_eqU (hr.units)) (pv 5) pe_int (nomark _)) (pss_one (ps_set (i := 7) sc_law.nd rfl (Or.inl rfl) (pe_lst (pa_cons (pv 6) (pa_cons (pe_callS G_Lplace (hr.mono (by decide)) rfl T.m_Lplace T.k_Lplace T.b_Lplace (fun σ => passAt tk σ) (pa_cons (pv 1) (pa_cons (pv 4) (pa_cons (pv 6) pa_nil)))) (pa_cons (pe_callS G_Lnumber (hr.mono (by decide)) rfl T.m_Lnumber T.k_Lnumber T.b_Lnumber (fun σ => passAt tk σ) (pa_cons (pv 1) pa_nil)) pa_nil)))))) pss_nil)
      (pss_cons (ps_set (i := 8) sc_law.nd rfl (Or.inl rfl) (pe_callS G_Ldeed (hr.mono (by decide)) rfl T.m_Ldeed T.k_Ldeed T.b_Ldeed (fun σ => passAt tk σ) (pa_cons (pv 5) (pa_cons (pv 7) (pa_cons (pv 4) pa_nil)))))
      (C8.pss_cut (ps_if (pt_val (pe_callB call_isi' (by rfl) T.n_isinstance (by decide +kernel) (pa_cons (pv 8) (pa_cons (pe_bltn (by rfl) T.n_str (by decide +kernel) rfl) pa_nil)))) (pss_one (ps_set (i := 8) sc_law.nd rfl (Or.inl rfl) (pe_tup (pa_cons (pv 8) (pa_cons pe_int pa_nil))))) (pss_one (ps_set (i := 8) sc_law.nd rfl (Or.inl rfl) (pe_tup (pa_cons pe_non (pa_cons (pv 8) pa_nil))))))
      (pss_cons (ps_set (i := 9) sc_law.nd rfl (Or.inl rfl) (pe_callTy call_list' (by rfl) T.n_list (by decide +kernel) (pa_cons (pv 7) pa_nil)))
      (pss_cons (ps_set (i := 10) sc_law.nd rfl (Or.inl rfl) (pe_callS G_worth (hr.mono (by decide)) rfl T.m_worth T.k_worth T.b_worth (fun σ => passAt tk σ) (pa_cons (pv 5) (pa_cons (pv 9) (pa_cons (pv 2) pa_nil)))))
      (pss_cons (ps_if (PW.pt (pw_or (pt_not (pt_val (pe_callB call_isi' (by rfl) T.n_isinstance (by decide +kernel) (pa_cons (pv 10) (pa_cons (pe_bltn (by rfl) T.n_tuple (by decide +kernel) rfl) pa_nil))))) (pw_or (pt_val (pe_callB call_isi' (by rfl) T.n_isinstance (by decide +kernel) (pa_cons (pe_ix ix_seq (pv 10) pe_int (fun _ _ => rfl)) (pa_cons (pe_bltn (by rfl) T.n_bool (by decide +kernel) rfl) pa_nil)))) (pw_or (pt_cmpR (op_neU (hr.units)) (pv 10) (pv 8) (nomark _)) (pw_or1 (pt_cmpR (op_neU (hr.units)) (pv 9) (pv 7) (nomark _))))))) (pss_one (ps_ret pe_bl)) pss_nil)
      (pss_one (ps_if (pt_cmpR (op_neU (hr.units)) (pv 2) (pv 4) (nomark _)) (pss_one (ps_ret pe_bl)) pss_nil))))))))))))
      (pss_one (ps_ret (pe_cmpR (op_eqU (hr.units)) (pv 2) (pv 4) (nomark _)))))))))
def sp_goal (K : PySem.W.Frag) : Sp := fun vs H Q _ => ∃ (a : Addr) (ns : List Int), vs = [.ref a] ∧ Only H ∧ Scr K H a ns ∧ ns.length ≤ 63 ∧ ∀ H', Q (.bl true) H'
theorem goal_law (Z : Adr) {vs : List V} {H : Hp} {Q : VK} {E : XK} (h : sp_goal Z.K vs H Q E) : sp_law Z vs H Q E := by
  obtain ⟨a, ns, rfl, h⟩ := h
  exact ⟨_, rfl, a, ns, rfl, h⟩
/-! ### the top, and the law's own head -/
theorem all_mk {l : PySem.W.OpenLaw} {w : World} {K : PySem.W.Frag} {h : Heap} {mg : Str → Option Value} {fa : Addr} (X : K.In h) (G : h.Ns mainGlobals mg) (hfa : mg "law" = some (.ref fa))
    {tk_ADD : Tok}
    {tk_SUB : Tok}
    {tk_MUL : Tok}
    {tk_QUO : Tok}
    {tk_REST : Tok}
    {tk_LESS : Tok}
    {tk_SAME : Tok}
    {tk_PUSH : Tok}
    {tk_AT : Tok}
    {tk_SIZE : Tok}
    {tk_MOST_FIGURES : Tok}
    {oc_summed kV_summed dc_summed pm_summed cd_summed ct_summed : Value} {od_summed an_summed : Option Addr} {sl_summed : Array (Option Value)} {f_summed : Addr}
    {oc_parted_by kV_parted_by dc_parted_by pm_parted_by cd_parted_by ct_parted_by : Value} {od_parted_by an_parted_by : Option Addr} {sl_parted_by : Array (Option Value)} {f_parted_by : Addr}
    {oc_of_numbers kV_of_numbers dc_of_numbers pm_of_numbers cd_of_numbers ct_of_numbers : Value} {od_of_numbers an_of_numbers : Option Addr} {sl_of_numbers : Array (Option Value)} {f_of_numbers : Addr}
    {oc_of_row kV_of_row dc_of_row pm_of_row cd_of_row ct_of_row : Value} {od_of_row an_of_row : Option Addr} {sl_of_row : Array (Option Value)} {f_of_row : Addr}
    {oc_worth kV_worth dc_worth pm_worth cd_worth ct_worth : Value} {od_worth an_worth : Option Addr} {sl_worth : Array (Option Value)} {f_worth : Addr}
    {oc_Lbegin kV_Lbegin dc_Lbegin pm_Lbegin cd_Lbegin ct_Lbegin : Value} {od_Lbegin an_Lbegin : Option Addr} {sl_Lbegin : Array (Option Value)} {f_Lbegin : Addr}
    {oc_Lmixed kV_Lmixed dc_Lmixed pm_Lmixed cd_Lmixed ct_Lmixed : Value} {od_Lmixed an_Lmixed : Option Addr} {sl_Lmixed : Array (Option Value)} {f_Lmixed : Addr}
    {oc_Ltake kV_Ltake dc_Ltake pm_Ltake cd_Ltake ct_Ltake : Value} {od_Ltake an_Ltake : Option Addr} {sl_Ltake : Array (Option Value)} {f_Ltake : Addr}
    {oc_Lnumber kV_Lnumber dc_Lnumber pm_Lnumber cd_Lnumber ct_Lnumber : Value} {od_Lnumber an_Lnumber : Option Addr} {sl_Lnumber : Array (Option Value)} {f_Lnumber : Addr}
    {oc_Lcounted kV_Lcounted dc_Lcounted pm_Lcounted cd_Lcounted ct_Lcounted : Value} {od_Lcounted an_Lcounted : Option Addr} {sl_Lcounted : Array (Option Value)} {f_Lcounted : Addr}
    {oc_Ldeed kV_Ldeed dc_Ldeed pm_Ldeed cd_Ldeed ct_Ldeed : Value} {od_Ldeed an_Ldeed : Option Addr} {sl_Ldeed : Array (Option Value)} {f_Ldeed : Addr}
    {oc_Lrow_number kV_Lrow_number dc_Lrow_number pm_Lrow_number cd_Lrow_number ct_Lrow_number : Value} {od_Lrow_number an_Lrow_number : Option Addr} {sl_Lrow_number : Array (Option Value)} {f_Lrow_number : Addr}
    {oc_Lplace kV_Lplace dc_Lplace pm_Lplace cd_Lplace ct_Lplace : Value} {od_Lplace an_Lplace : Option Addr} {sl_Lplace : Array (Option Value)} {f_Lplace : Addr}
    {oc_law kV_law dc_law pm_law cd_law ct_law : Value} {od_law an_law : Option Addr} {sl_law : Array (Option Value)} {f_law : Addr}
    (i_ADD : PySem.W.nsIn K mainGlobals "ADD" = some (some (.int 8 tk_ADD)))
    (i_SUB : PySem.W.nsIn K mainGlobals "SUB" = some (some (.int 9 tk_SUB)))
    (i_MUL : PySem.W.nsIn K mainGlobals "MUL" = some (some (.int 10 tk_MUL)))
    (i_QUO : PySem.W.nsIn K mainGlobals "QUO" = some (some (.int 11 tk_QUO)))
    (i_REST : PySem.W.nsIn K mainGlobals "REST" = some (some (.int 12 tk_REST)))
    (i_LESS : PySem.W.nsIn K mainGlobals "LESS" = some (some (.int 13 tk_LESS)))
    (i_SAME : PySem.W.nsIn K mainGlobals "SAME" = some (some (.int 14 tk_SAME)))
    (i_PUSH : PySem.W.nsIn K mainGlobals "PUSH" = some (some (.int 15 tk_PUSH)))
    (i_AT : PySem.W.nsIn K mainGlobals "AT" = some (some (.int 16 tk_AT)))
    (i_SIZE : PySem.W.nsIn K mainGlobals "SIZE" = some (some (.int 18 tk_SIZE)))
    (i_MOST_FIGURES : PySem.W.nsIn K mainGlobals "MOST_FIGURES" = some (some (.int 100 tk_MOST_FIGURES)))
    (z_abs : PySem.W.nsIn K mainGlobals "abs" = some none)
    (z_bool : PySem.W.nsIn K mainGlobals "bool" = some none)
    (z_int : PySem.W.nsIn K mainGlobals "int" = some none)
    (z_isinstance : PySem.W.nsIn K mainGlobals "isinstance" = some none)
    (z_len : PySem.W.nsIn K mainGlobals "len" = some none)
    (z_list : PySem.W.nsIn K mainGlobals "list" = some none)
    (z_range : PySem.W.nsIn K mainGlobals "range" = some none)
    (z_str : PySem.W.nsIn K mainGlobals "str" = some none)
    (z_tuple : PySem.W.nsIn K mainGlobals "tuple" = some none)
    (a_summed : PySem.W.nsIn K mainGlobals "summed" = some (some (.ref f_summed)))
    (l_summed : K.lookup f_summed = some ⟨oc_summed, od_summed, .func (PySem.W.fnOf "summed" "summed" (defArgs st_summed) (defBody st_summed) (defScope st_summed) .none kV_summed dc_summed pm_summed an_summed cd_summed ct_summed), sl_summed⟩)
    (c_summed : PySem.W.codeIn K cd_summed "summed" = true)
    (k_summed : PySem.W.keepIn K (.ref f_summed) = true)
    (a_parted_by : PySem.W.nsIn K mainGlobals "parted_by" = some (some (.ref f_parted_by)))
    (l_parted_by : K.lookup f_parted_by = some ⟨oc_parted_by, od_parted_by, .func (PySem.W.fnOf "parted_by" "parted_by" (defArgs st_parted_by) (defBody st_parted_by) (defScope st_parted_by) .none kV_parted_by dc_parted_by pm_parted_by an_parted_by cd_parted_by ct_parted_by), sl_parted_by⟩)
    (c_parted_by : PySem.W.codeIn K cd_parted_by "parted_by" = true)
    (k_parted_by : PySem.W.keepIn K (.ref f_parted_by) = true)
    (a_of_numbers : PySem.W.nsIn K mainGlobals "of_numbers" = some (some (.ref f_of_numbers)))
    (l_of_numbers : K.lookup f_of_numbers = some ⟨oc_of_numbers, od_of_numbers, .func (PySem.W.fnOf "of_numbers" "of_numbers" (defArgs st_of_numbers) (defBody st_of_numbers) (defScope st_of_numbers) .none kV_of_numbers dc_of_numbers pm_of_numbers an_of_numbers cd_of_numbers ct_of_numbers), sl_of_numbers⟩)
    (c_of_numbers : PySem.W.codeIn K cd_of_numbers "of_numbers" = true)
    (k_of_numbers : PySem.W.keepIn K (.ref f_of_numbers) = true)
    (a_of_row : PySem.W.nsIn K mainGlobals "of_row" = some (some (.ref f_of_row)))
    (l_of_row : K.lookup f_of_row = some ⟨oc_of_row, od_of_row, .func (PySem.W.fnOf "of_row" "of_row" (defArgs st_of_row) (defBody st_of_row) (defScope st_of_row) .none kV_of_row dc_of_row pm_of_row an_of_row cd_of_row ct_of_row), sl_of_row⟩)
    (c_of_row : PySem.W.codeIn K cd_of_row "of_row" = true)
    (k_of_row : PySem.W.keepIn K (.ref f_of_row) = true)
    (a_worth : PySem.W.nsIn K mainGlobals "worth" = some (some (.ref f_worth)))
    (l_worth : K.lookup f_worth = some ⟨oc_worth, od_worth, .func (PySem.W.fnOf "worth" "worth" (defArgs st_worth) (defBody st_worth) (defScope st_worth) .none kV_worth dc_worth pm_worth an_worth cd_worth ct_worth), sl_worth⟩)
    (c_worth : PySem.W.codeIn K cd_worth "worth" = true)
    (k_worth : PySem.W.keepIn K (.ref f_worth) = true)
    (a_Lbegin : PySem.W.nsIn K mainGlobals "_law_begin" = some (some (.ref f_Lbegin)))
    (l_Lbegin : K.lookup f_Lbegin = some ⟨oc_Lbegin, od_Lbegin, .func (PySem.W.fnOf "_law_begin" "_law_begin" (defArgs st_Lbegin) (defBody st_Lbegin) (defScope st_Lbegin) .none kV_Lbegin dc_Lbegin pm_Lbegin an_Lbegin cd_Lbegin ct_Lbegin), sl_Lbegin⟩)
    (c_Lbegin : PySem.W.codeIn K cd_Lbegin "_law_begin" = true)
    (k_Lbegin : PySem.W.keepIn K (.ref f_Lbegin) = true)
    (a_Lmixed : PySem.W.nsIn K mainGlobals "_law_mixed" = some (some (.ref f_Lmixed)))
    (l_Lmixed : K.lookup f_Lmixed = some ⟨oc_Lmixed, od_Lmixed, .func (PySem.W.fnOf "_law_mixed" "_law_mixed" (defArgs st_Lmixed) (defBody st_Lmixed) (defScope st_Lmixed) .none kV_Lmixed dc_Lmixed pm_Lmixed an_Lmixed cd_Lmixed ct_Lmixed), sl_Lmixed⟩)
    (c_Lmixed : PySem.W.codeIn K cd_Lmixed "_law_mixed" = true)
    (k_Lmixed : PySem.W.keepIn K (.ref f_Lmixed) = true)
    (a_Ltake : PySem.W.nsIn K mainGlobals "_law_take" = some (some (.ref f_Ltake)))
    (l_Ltake : K.lookup f_Ltake = some ⟨oc_Ltake, od_Ltake, .func (PySem.W.fnOf "_law_take" "_law_take" (defArgs st_Ltake) (defBody st_Ltake) (defScope st_Ltake) .none kV_Ltake dc_Ltake pm_Ltake an_Ltake cd_Ltake ct_Ltake), sl_Ltake⟩)
    (c_Ltake : PySem.W.codeIn K cd_Ltake "_law_take" = true)
    (k_Ltake : PySem.W.keepIn K (.ref f_Ltake) = true)
    (a_Lnumber : PySem.W.nsIn K mainGlobals "_law_number" = some (some (.ref f_Lnumber)))
    (l_Lnumber : K.lookup f_Lnumber = some ⟨oc_Lnumber, od_Lnumber, .func (PySem.W.fnOf "_law_number" "_law_number" (defArgs st_Lnumber) (defBody st_Lnumber) (defScope st_Lnumber) .none kV_Lnumber dc_Lnumber pm_Lnumber an_Lnumber cd_Lnumber ct_Lnumber), sl_Lnumber⟩)
    (c_Lnumber : PySem.W.codeIn K cd_Lnumber "_law_number" = true)
    (k_Lnumber : PySem.W.keepIn K (.ref f_Lnumber) = true)
    (a_Lcounted : PySem.W.nsIn K mainGlobals "_law_counted" = some (some (.ref f_Lcounted)))
    (l_Lcounted : K.lookup f_Lcounted = some ⟨oc_Lcounted, od_Lcounted, .func (PySem.W.fnOf "_law_counted" "_law_counted" (defArgs st_Lcounted) (defBody st_Lcounted) (defScope st_Lcounted) .none kV_Lcounted dc_Lcounted pm_Lcounted an_Lcounted cd_Lcounted ct_Lcounted), sl_Lcounted⟩)
    (c_Lcounted : PySem.W.codeIn K cd_Lcounted "_law_counted" = true)
    (k_Lcounted : PySem.W.keepIn K (.ref f_Lcounted) = true)
    (a_Ldeed : PySem.W.nsIn K mainGlobals "_law_deed" = some (some (.ref f_Ldeed)))
    (l_Ldeed : K.lookup f_Ldeed = some ⟨oc_Ldeed, od_Ldeed, .func (PySem.W.fnOf "_law_deed" "_law_deed" (defArgs st_Ldeed) (defBody st_Ldeed) (defScope st_Ldeed) .none kV_Ldeed dc_Ldeed pm_Ldeed an_Ldeed cd_Ldeed ct_Ldeed), sl_Ldeed⟩)
    (c_Ldeed : PySem.W.codeIn K cd_Ldeed "_law_deed" = true)
    (k_Ldeed : PySem.W.keepIn K (.ref f_Ldeed) = true)
    (a_Lrow_number : PySem.W.nsIn K mainGlobals "_law_row_number" = some (some (.ref f_Lrow_number)))
    (l_Lrow_number : K.lookup f_Lrow_number = some ⟨oc_Lrow_number, od_Lrow_number, .func (PySem.W.fnOf "_law_row_number" "_law_row_number" (defArgs st_Lrow_number) (defBody st_Lrow_number) (defScope st_Lrow_number) .none kV_Lrow_number dc_Lrow_number pm_Lrow_number an_Lrow_number cd_Lrow_number ct_Lrow_number), sl_Lrow_number⟩)
    (c_Lrow_number : PySem.W.codeIn K cd_Lrow_number "_law_row_number" = true)
    (k_Lrow_number : PySem.W.keepIn K (.ref f_Lrow_number) = true)
    (a_Lplace : PySem.W.nsIn K mainGlobals "_law_place" = some (some (.ref f_Lplace)))
    (l_Lplace : K.lookup f_Lplace = some ⟨oc_Lplace, od_Lplace, .func (PySem.W.fnOf "_law_place" "_law_place" (defArgs st_Lplace) (defBody st_Lplace) (defScope st_Lplace) .none kV_Lplace dc_Lplace pm_Lplace an_Lplace cd_Lplace ct_Lplace), sl_Lplace⟩)
    (c_Lplace : PySem.W.codeIn K cd_Lplace "_law_place" = true)
    (k_Lplace : PySem.W.keepIn K (.ref f_Lplace) = true)
    (a_law : PySem.W.nsIn K mainGlobals "law" = some (some (.ref f_law)))
    (l_law : K.lookup f_law = some ⟨oc_law, od_law, .func (PySem.W.fnOf "law" "law" (defArgs st_law) (defBody st_law) (defScope st_law) .none kV_law dc_law pm_law an_law cd_law ct_law), sl_law⟩)
    (c_law : PySem.W.codeIn K cd_law "law" = true)
    (k_law : PySem.W.keepIn K (.ref f_law) = true) :
    ∃ fd : FuncData, (∀ (s : Shared) (v : Value), BindsTo s fd ⟨[v], []⟩ [("_law_script", v)]) ∧ ∀ base : Heap, K.In base → base.Ns mainGlobals mg → ∃ Z : Adr, Z.K = K ∧ FnOk l.prog w K mg base (L2.CX l.prog w) 4 fa fd ["_law_script"] (sp_law Z) := by
  have e := hfa.symm.trans (PySem.W.mg_of X G a_law)
  cases e
  let Z : Adr := {
      K := K
      mg := mg
      t_ADD := tk_ADD
      t_SUB := tk_SUB
      t_MUL := tk_MUL
      t_QUO := tk_QUO
      t_REST := tk_REST
      t_LESS := tk_LESS
      t_SAME := tk_SAME
      t_PUSH := tk_PUSH
      t_AT := tk_AT
      t_SIZE := tk_SIZE
      t_MOST_FIGURES := tk_MOST_FIGURES
      f_summed := f_summed
      d_summed := PySem.W.fnOf "summed" "summed" (defArgs st_summed) (defBody st_summed) (defScope st_summed) .none kV_summed dc_summed pm_summed an_summed cd_summed ct_summed
      f_parted_by := f_parted_by
      d_parted_by := PySem.W.fnOf "parted_by" "parted_by" (defArgs st_parted_by) (defBody st_parted_by) (defScope st_parted_by) .none kV_parted_by dc_parted_by pm_parted_by an_parted_by cd_parted_by ct_parted_by
      f_of_numbers := f_of_numbers
      d_of_numbers := PySem.W.fnOf "of_numbers" "of_numbers" (defArgs st_of_numbers) (defBody st_of_numbers) (defScope st_of_numbers) .none kV_of_numbers dc_of_numbers pm_of_numbers an_of_numbers cd_of_numbers ct_of_numbers
      f_of_row := f_of_row
      d_of_row := PySem.W.fnOf "of_row" "of_row" (defArgs st_of_row) (defBody st_of_row) (defScope st_of_row) .none kV_of_row dc_of_row pm_of_row an_of_row cd_of_row ct_of_row
      f_worth := f_worth
      d_worth := PySem.W.fnOf "worth" "worth" (defArgs st_worth) (defBody st_worth) (defScope st_worth) .none kV_worth dc_worth pm_worth an_worth cd_worth ct_worth
      f_Lbegin := f_Lbegin
      d_Lbegin := PySem.W.fnOf "_law_begin" "_law_begin" (defArgs st_Lbegin) (defBody st_Lbegin) (defScope st_Lbegin) .none kV_Lbegin dc_Lbegin pm_Lbegin an_Lbegin cd_Lbegin ct_Lbegin
      f_Lmixed := f_Lmixed
      d_Lmixed := PySem.W.fnOf "_law_mixed" "_law_mixed" (defArgs st_Lmixed) (defBody st_Lmixed) (defScope st_Lmixed) .none kV_Lmixed dc_Lmixed pm_Lmixed an_Lmixed cd_Lmixed ct_Lmixed
      f_Ltake := f_Ltake
      d_Ltake := PySem.W.fnOf "_law_take" "_law_take" (defArgs st_Ltake) (defBody st_Ltake) (defScope st_Ltake) .none kV_Ltake dc_Ltake pm_Ltake an_Ltake cd_Ltake ct_Ltake
      f_Lnumber := f_Lnumber
      d_Lnumber := PySem.W.fnOf "_law_number" "_law_number" (defArgs st_Lnumber) (defBody st_Lnumber) (defScope st_Lnumber) .none kV_Lnumber dc_Lnumber pm_Lnumber an_Lnumber cd_Lnumber ct_Lnumber
      f_Lcounted := f_Lcounted
      d_Lcounted := PySem.W.fnOf "_law_counted" "_law_counted" (defArgs st_Lcounted) (defBody st_Lcounted) (defScope st_Lcounted) .none kV_Lcounted dc_Lcounted pm_Lcounted an_Lcounted cd_Lcounted ct_Lcounted
      f_Ldeed := f_Ldeed
      d_Ldeed := PySem.W.fnOf "_law_deed" "_law_deed" (defArgs st_Ldeed) (defBody st_Ldeed) (defScope st_Ldeed) .none kV_Ldeed dc_Ldeed pm_Ldeed an_Ldeed cd_Ldeed ct_Ldeed
      f_Lrow_number := f_Lrow_number
      d_Lrow_number := PySem.W.fnOf "_law_row_number" "_law_row_number" (defArgs st_Lrow_number) (defBody st_Lrow_number) (defScope st_Lrow_number) .none kV_Lrow_number dc_Lrow_number pm_Lrow_number an_Lrow_number cd_Lrow_number ct_Lrow_number
      f_Lplace := f_Lplace
      d_Lplace := PySem.W.fnOf "_law_place" "_law_place" (defArgs st_Lplace) (defBody st_Lplace) (defScope st_Lplace) .none kV_Lplace dc_Lplace pm_Lplace an_Lplace cd_Lplace ct_Lplace
      f_law := fa
      d_law := PySem.W.fnOf "law" "law" (defArgs st_law) (defBody st_law) (defScope st_law) .none kV_law dc_law pm_law an_law cd_law ct_law }
  have T : Top Z := {
      g_ADD := PySem.W.mg_of X G i_ADD
      g_SUB := PySem.W.mg_of X G i_SUB
      g_MUL := PySem.W.mg_of X G i_MUL
      g_QUO := PySem.W.mg_of X G i_QUO
      g_REST := PySem.W.mg_of X G i_REST
      g_LESS := PySem.W.mg_of X G i_LESS
      g_SAME := PySem.W.mg_of X G i_SAME
      g_PUSH := PySem.W.mg_of X G i_PUSH
      g_AT := PySem.W.mg_of X G i_AT
      g_SIZE := PySem.W.mg_of X G i_SIZE
      g_MOST_FIGURES := PySem.W.mg_of X G i_MOST_FIGURES
      n_abs := PySem.W.mg_none_of X G z_abs
      n_bool := PySem.W.mg_none_of X G z_bool
      n_int := PySem.W.mg_none_of X G z_int
      n_isinstance := PySem.W.mg_none_of X G z_isinstance
      n_len := PySem.W.mg_none_of X G z_len
      n_list := PySem.W.mg_none_of X G z_list
      n_range := PySem.W.mg_none_of X G z_range
      n_str := PySem.W.mg_none_of X G z_str
      n_tuple := PySem.W.mg_none_of X G z_tuple
      m_summed := PySem.W.mg_of X G a_summed
      F_summed := fun_mk (st := st_summed) l_summed c_summed k_summed
      b_summed := (fun_mk (st := st_summed) l_summed c_summed k_summed).binds (ps := ["kind", "one", "other"]) fun _ _ _ _ _ _ us hl => match us, hl with | [_, _, _], _ => rfl
      m_parted_by := PySem.W.mg_of X G a_parted_by
      F_parted_by := fun_mk (st := st_parted_by) l_parted_by c_parted_by k_parted_by
      b_parted_by := (fun_mk (st := st_parted_by) l_parted_by c_parted_by k_parted_by).binds (ps := ["kind", "one", "other"]) fun _ _ _ _ _ _ us hl => match us, hl with | [_, _, _], _ => rfl
      m_of_numbers := PySem.W.mg_of X G a_of_numbers
      F_of_numbers := fun_mk (st := st_of_numbers) l_of_numbers c_of_numbers k_of_numbers
      b_of_numbers := (fun_mk (st := st_of_numbers) l_of_numbers c_of_numbers k_of_numbers).binds (ps := ["kind", "values"]) fun _ _ _ _ _ _ us hl => match us, hl with | [_, _], _ => rfl
      m_of_row := PySem.W.mg_of X G a_of_row
      F_of_row := fun_mk (st := st_of_row) l_of_row c_of_row k_of_row
      b_of_row := (fun_mk (st := st_of_row) l_of_row c_of_row k_of_row).binds (ps := ["kind", "values", "row"]) fun _ _ _ _ _ _ us hl => match us, hl with | [_, _, _], _ => rfl
      m_worth := PySem.W.mg_of X G a_worth
      F_worth := fun_mk (st := st_worth) l_worth c_worth k_worth
      b_worth := (fun_mk (st := st_worth) l_worth c_worth k_worth).binds (ps := ["kind", "values", "rows"]) fun _ _ _ _ _ _ us hl => match us, hl with | [_, _, _], _ => rfl
      m_Lbegin := PySem.W.mg_of X G a_Lbegin
      F_Lbegin := fun_mk (st := st_Lbegin) l_Lbegin c_Lbegin k_Lbegin
      b_Lbegin := (fun_mk (st := st_Lbegin) l_Lbegin c_Lbegin k_Lbegin).binds (ps := ["_law_script"]) fun _ _ _ _ _ _ us hl => match us, hl with | [_], _ => rfl
      m_Lmixed := PySem.W.mg_of X G a_Lmixed
      F_Lmixed := fun_mk (st := st_Lmixed) l_Lmixed c_Lmixed k_Lmixed
      b_Lmixed := (fun_mk (st := st_Lmixed) l_Lmixed c_Lmixed k_Lmixed).binds (ps := ["_law_cell", "_law_k"]) fun _ _ _ _ _ _ us hl => match us, hl with | [_, _], _ => rfl
      m_Ltake := PySem.W.mg_of X G a_Ltake
      F_Ltake := fun_mk (st := st_Ltake) l_Ltake c_Ltake k_Ltake
      b_Ltake := (fun_mk (st := st_Ltake) l_Ltake c_Ltake k_Ltake).binds (ps := ["_law_state", "_law_most"]) fun _ _ _ _ _ _ us hl => match us, hl with | [_, _], _ => rfl
      m_Lnumber := PySem.W.mg_of X G a_Lnumber
      F_Lnumber := fun_mk (st := st_Lnumber) l_Lnumber c_Lnumber k_Lnumber
      b_Lnumber := (fun_mk (st := st_Lnumber) l_Lnumber c_Lnumber k_Lnumber).binds (ps := ["_law_state"]) fun _ _ _ _ _ _ us hl => match us, hl with | [_], _ => rfl
      m_Lcounted := PySem.W.mg_of X G a_Lcounted
      F_Lcounted := fun_mk (st := st_Lcounted) l_Lcounted c_Lcounted k_Lcounted
      b_Lcounted := (fun_mk (st := st_Lcounted) l_Lcounted c_Lcounted k_Lcounted).binds (ps := ["_law_kind", "_law_one", "_law_other"]) fun _ _ _ _ _ _ us hl => match us, hl with | [_, _, _], _ => rfl
      m_Ldeed := PySem.W.mg_of X G a_Ldeed
      F_Ldeed := fun_mk (st := st_Ldeed) l_Ldeed c_Ldeed k_Ldeed
      b_Ldeed := (fun_mk (st := st_Ldeed) l_Ldeed c_Ldeed k_Ldeed).binds (ps := ["_law_kind", "_law_values", "_law_rows"]) fun _ _ _ _ _ _ us hl => match us, hl with | [_, _, _], _ => rfl
      m_Lrow_number := PySem.W.mg_of X G a_Lrow_number
      F_Lrow_number := fun_mk (st := st_Lrow_number) l_Lrow_number c_Lrow_number k_Lrow_number
      b_Lrow_number := (fun_mk (st := st_Lrow_number) l_Lrow_number c_Lrow_number k_Lrow_number).binds (ps := ["_law_state", "_law_rows"]) fun _ _ _ _ _ _ us hl => match us, hl with | [_, _], _ => rfl
      m_Lplace := PySem.W.mg_of X G a_Lplace
      F_Lplace := fun_mk (st := st_Lplace) l_Lplace c_Lplace k_Lplace
      b_Lplace := (fun_mk (st := st_Lplace) l_Lplace c_Lplace k_Lplace).binds (ps := ["_law_state", "_law_rows", "_law_number_here"]) fun _ _ _ _ _ _ us hl => match us, hl with | [_, _, _], _ => rfl
      m_law := PySem.W.mg_of X G a_law
      F_law := fun_mk (st := st_law) l_law c_law k_law
      b_law := (fun_mk (st := st_law) l_law c_law k_law).binds (ps := ["_law_script"]) fun _ _ _ _ _ _ us hl => match us, hl with | [_], _ => rfl }
  refine ⟨Z.d_law, fun s v => .of_eq rfl, fun base _ _ => ⟨Z, rfl, ?_⟩⟩
  have G_Lbegin := ok_Lbegin (P := l.prog) (w := w) (base := base) T 
  have G_Lmixed := ok_Lmixed (P := l.prog) (w := w) (base := base) T 
  have G_Ltake := ok_Ltake (P := l.prog) (w := w) (base := base) T G_Lmixed
  have G_Lnumber := ok_Lnumber (P := l.prog) (w := w) (base := base) T G_Ltake
  have G_Lrow_number := ok_Lrow_number (P := l.prog) (w := w) (base := base) T G_Ltake
  have G_Lplace := ok_Lplace (P := l.prog) (w := w) (base := base) T G_Ltake
  have G_Lcounted := ok_Lcounted (P := l.prog) (w := w) (base := base) T 
  have G_Ldeed := ok_Ldeed (P := l.prog) (w := w) (base := base) T G_Lcounted
  have G_summed := ok_summed (P := l.prog) (w := w) (base := base) T 
  have G_parted_by := ok_parted_by (P := l.prog) (w := w) (base := base) T 
  have G_of_numbers := ok_of_numbers (P := l.prog) (w := w) (base := base) T G_summed G_parted_by
  have G_of_row := ok_of_row (P := l.prog) (w := w) (base := base) T 
  have G_worth := ok_worth (P := l.prog) (w := w) (base := base) T G_of_numbers G_of_row
  have G_law := ok_law (P := l.prog) (w := w) (base := base) T G_Lbegin G_Ltake G_Lnumber G_Lrow_number G_Lplace G_Ldeed G_worth
  exact G_law
theorem walk {l : PySem.W.OpenLaw} {q : Program} {loose : List Str} {XP : (Str → Option Value) → Heap → Prop} {YP : World → Heap → Prop} {d : DefRec} {K : Params → PySem.W.Frag} (hn : l.most = some 63) (hdf : d.params.defaults = [])
    (hY : ∀ (w : World) (h : Heap), YP w h → (K w.params).In h)
    (F : ∀ (w : World) (mg : Str → Option Value) (fa : Addr) (h : Heap), (K w.params).In h → h.Ns mainGlobals mg → mg d.name = some (.ref fa) →
      ∃ fd : FuncData, (∀ (s : Shared) (u : Value), BindsTo s fd ⟨[u], []⟩ [("_law_script", u)]) ∧ ∀ base : Heap, (K w.params).In base → base.Ns mainGlobals mg → ∃ Z : Adr, Z.K = K w.params ∧ FnOk l.prog w (K w.params) mg base (L2.CX l.prog w) 4 fa fd ["_law_script"] (sp_law Z)) :
    PySem.W.WalkO q loose XP YP l.row.toRowW d [] (fun f vs => PySem.call f vs) :=
  L2.walk_of (n := 63) (k := 4) (x := "_law_script") (CX := fun w => L2.CX l.prog w) (sp := fun w => sp_goal (K w.params)) hn (by decide) hdf ⟨rfl, by decide, by decide⟩ hY
    (fun w mg fa h a b c => by
      obtain ⟨fd, hb, z⟩ := F w mg fa h a b c
      refine ⟨fd, hb, fun base e f => ?_⟩
      obtain ⟨Z, hZ, g⟩ := z base e f
      exact g.imp fun vs H Q E q => goal_law Z (hZ ▸ q))
    (fun w H a ns hl hO hS => ⟨a, ns, rfl, hO, Scr.of hO hS, hl, fun _ => rfl⟩) fun w H s e s' z => by
      obtain ⟨_, _, _, _, _, _, _, _, _, _, _, _, z⟩ := z
      exact z.elim
end My
open PySem PySem.W PyProof.Rows
set_option maxRecDepth 100000 in
set_option maxHeartbeats 0 in
theorem PySem.Challenge.cw_ownchain_k16_worths_of_rows_holds : PySem.Challenge.rw_ownchain_k16_worths_of_rows.Holds := by
  w_on; o_law; k_head; (case hw => w_witness2)
  k_fill
  refine My.walk (l := PySem.Challenge.rw_ownchain_k16_worths_of_rows) rfl rfl (fun w h Y => PySem.W.kIn_of Y) ?F
  case F =>
    intro w mg fa h KX G hmg
    refine' My.all_mk KX G hmg ?i_ADD ?i_SUB ?i_MUL ?i_QUO ?i_REST ?i_LESS ?i_SAME ?i_PUSH ?i_AT ?i_SIZE ?i_MOST_FIGURES ?z_abs ?z_bool ?z_int ?z_isinstance ?z_len ?z_list ?z_range ?z_str ?z_tuple ?a_summed ?l_summed ?c_summed ?k_summed ?a_parted_by ?l_parted_by ?c_parted_by ?k_parted_by ?a_of_numbers ?l_of_numbers ?c_of_numbers ?k_of_numbers ?a_of_row ?l_of_row ?c_of_row ?k_of_row ?a_worth ?l_worth ?c_worth ?k_worth ?a_Lbegin ?l_Lbegin ?c_Lbegin ?k_Lbegin ?a_Lmixed ?l_Lmixed ?c_Lmixed ?k_Lmixed ?a_Ltake ?l_Ltake ?c_Ltake ?k_Ltake ?a_Lnumber ?l_Lnumber ?c_Lnumber ?k_Lnumber ?a_Lcounted ?l_Lcounted ?c_Lcounted ?k_Lcounted ?a_Ldeed ?l_Ldeed ?c_Ldeed ?k_Ldeed ?a_Lrow_number ?l_Lrow_number ?c_Lrow_number ?k_Lrow_number ?a_Lplace ?l_Lplace ?c_Lplace ?k_Lplace ?a_law ?l_law ?c_law ?k_law
    (case i_ADD => k_is)
    (case i_SUB => k_is)
    (case i_MUL => k_is)
    (case i_QUO => k_is)
    (case i_REST => k_is)
    (case i_LESS => k_is)
    (case i_SAME => k_is)
    (case i_PUSH => k_is)
    (case i_AT => k_is)
    (case i_SIZE => k_is)
    (case i_MOST_FIGURES => k_is)
    (case z_abs => k_is)
    (case z_bool => k_is)
    (case z_int => k_is)
    (case z_isinstance => k_is)
    (case z_len => k_is)
    (case z_list => k_is)
    (case z_range => k_is)
    (case z_str => k_is)
    (case z_tuple => k_is)
    (case a_summed => k_is)
    (case l_summed => k_is)
    (case c_summed => k_is)
    (case k_summed => k_is)
    (case a_parted_by => k_is)
    (case l_parted_by => k_is)
    (case c_parted_by => k_is)
    (case k_parted_by => k_is)
    (case a_of_numbers => k_is)
    (case l_of_numbers => k_is)
    (case c_of_numbers => k_is)
    (case k_of_numbers => k_is)
    (case a_of_row => k_is)
    (case l_of_row => k_is)
    (case c_of_row => k_is)
    (case k_of_row => k_is)
    (case a_worth => k_is)
    (case l_worth => k_is)
    (case c_worth => k_is)
    (case k_worth => k_is)
    (case a_Lbegin => k_is)
    (case l_Lbegin => k_is)
    (case c_Lbegin => k_is)
    (case k_Lbegin => k_is)
    (case a_Lmixed => k_is)
    (case l_Lmixed => k_is)
    (case c_Lmixed => k_is)
    (case k_Lmixed => k_is)
    (case a_Ltake => k_is)
    (case l_Ltake => k_is)
    (case c_Ltake => k_is)
    (case k_Ltake => k_is)
    (case a_Lnumber => k_is)
    (case l_Lnumber => k_is)
    (case c_Lnumber => k_is)
    (case k_Lnumber => k_is)
    (case a_Lcounted => k_is)
    (case l_Lcounted => k_is)
    (case c_Lcounted => k_is)
    (case k_Lcounted => k_is)
    (case a_Ldeed => k_is)
    (case l_Ldeed => k_is)
    (case c_Ldeed => k_is)
    (case k_Ldeed => k_is)
    (case a_Lrow_number => k_is)
    (case l_Lrow_number => k_is)
    (case c_Lrow_number => k_is)
    (case k_Lrow_number => k_is)
    (case a_Lplace => k_is)
    (case l_Lplace => k_is)
    (case c_Lplace => k_is)
    (case k_Lplace => k_is)
    (case a_law => k_is)
    (case l_law => k_is)
    (case c_law => k_is)
    (case k_law => k_is)
