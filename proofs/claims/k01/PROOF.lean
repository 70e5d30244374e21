import PyProof.Rows.All
import Wide.All
import OpenK.AllK
import Wide.FinOn
import HandS.ForMost
import HandS.ForExc
import HandS.IsInst
import HandS.Wide
import HandS.TryOnly
import HandS.Codes
import PySem.Challenge.RW_ownchain_k01_words_of_kinds
set_option Elab.async false
set_option linter.all false
set_option maxRecDepth 100000
set_option maxHeartbeats 8000000
set_option Elab.async false
set_option linter.all false
set_option maxRecDepth 100000
set_option maxHeartbeats 4000000
/-! Step lemmas over the hand layer's readings: each goal of a reading is turned by one lemma. -/
namespace Z
open PySem PySem.Spec PyProof.Rows L2

abbrev kS (s : Str) : Key := Sum.inr s
abbrev kI (i : Int) : Key := Sum.inl i
/-! ### universal rules: by the values -/
section
variable {X : Cx}
def rFdv : R2 := rI (fun _ j => j ≠ 0 ∧ j.natAbs.log2 < 9000) fun i j => .int (i.fdiv j)
theorem op_fdv : OpR X (binaryOp .FloorDiv) rFdv := opI fun i j _ _ _ _ _ hc q => floordiv_int hc.1 q (.inl (PyProof.noPylong_of_log2 hc.2))
def rMod : R2 := rI (fun _ j => j ≠ 0) fun i j => .int (i.fmod j)
theorem op_md : OpR X (binaryOp .Mod) rMod := op_modN
def rMul : R2 := rI (fun i j => CMul i j ∨ CMulW i j) fun i j => .int (i * j)
theorem op_ml : OpR X (binaryOp .Mult) rMul := opI fun _ _ _ _ _ _ _ hc q => mul_int q (hc.elim CMul.ok CMulW.ok)
def rAddI : R2 := rI0 fun i j => .int (i + j)
def rAddS : R2 := fun x y H Q => ∃ i j, x = .str i ∧ y = .str j ∧ i.length + j.length ≤ sizeLine ∧ Q (.str (i ++ j)) H
def rAddU (K : PySem.W.Frag) : R2 := fun x y H Q => rAddI x y H Q ∨ rAddS x y H Q ∨ rCat x y H Q ∨ rCatT K x y H Q
theorem op_addU : OpR X (binaryOp .Add) (rAddU X.K) := OpR.or op_add (OpR.or op_add_str (OpR.or op_cat op_catT))
def rEqU (K : PySem.W.Frag) : R2 := fun x y H Q => rEq x y H Q ∨ rEqD K x y H Q
theorem op_eqU (hu : X.A.units + 64 < cLine) : OpR X (compareOp .Eq) (rEqU X.K) := OpR.or op_eq (op_eqD hu)
def rNeU (K : PySem.W.Frag) : R2 := fun x y H Q => rNe x y H Q ∨ rNeD K x y H Q
theorem op_neU (hu : X.A.units + 64 < cLine) : OpR X (compareOp .NotEq) (rNeU X.K) := OpR.or op_ne (op_neD hu)
def rLen (K : PySem.W.Frag) : List V → Hp → VK → Prop := fun xs H Q => ∃ x n, xs = [x] ∧ LenV K x H n ∧ Q (.int (n : Nat)) H
theorem call_len' : CallR X (.builtin "len") (rLen X.K) := call_len
theorem pe_powc {b n z : Int} {k k' : Nat} {p p' pos : Pos} (hc : CPow b n) (h : b ^ n.toNat = z) : PE X (.BinOp (.Constant (.int b) k p) .Pow (.Constant (.int n) k' p') pos) (tC (.int z)) :=
  ⟨fun pins s σ H Q I q => (pe_op op_pow pe_int pe_int).run pins s σ H Q I ⟨b, n, rfl, rfl, hc, by show Q (.int (b ^ n.toNat)) H; rw [h]; exact q⟩⟩
def rMin2 : List V → Hp → VK → Prop := fun xs H Q => ∃ i j, xs = [.int i, .int j] ∧ Q (.int (if j < i then j else i)) H
theorem call_min' (hc : X.calm = true) : CallR X (.builtin "min") rMin2 := call_min2 hc
def rMax2 : List V → Hp → VK → Prop := fun xs H Q => ∃ i j, xs = [.int i, .int j] ∧ Q (.int (if j > i then j else i)) H
theorem call_max' (hc : X.calm = true) : CallR X (.builtin "max") rMax2 := call_max2 hc
def rListOf (K : PySem.W.Frag) : List V → Hp → VK → Prop := fun xs H Q => ∃ p ys, xs = [.ref p] ∧ (SqL K H p ys ∨ SqT K H p ys) ∧ ∀ l, H l = none → Q (.ref l) (upd H l (.lst ys))
theorem call_list' : CallR X (.type "list") (rListOf X.K) := call_list_of
def rTupOf (K : PySem.W.Frag) : List V → Hp → VK → Prop := fun xs H Q => ∃ p ys, xs = [.ref p] ∧ ((SqL K H p ys ∧ ∀ l, H l = none → Q (.ref l) (upd H l (.tup ys))) ∨ (SqT K H p ys ∧ Q (.ref p) H))
theorem call_tuple' : CallR X (.type "tuple") (rTupOf X.K) := call_tuple_of
def rInt1 : List V → Hp → VK → Prop := fun xs H Q => (∃ i, xs = [.int i] ∧ Q (.int i) H) ∨ ∃ k, xs = [.bl k] ∧ Q (.int (if k then 1 else 0)) H
theorem call_int' : CallR X (.type "int") rInt1 := call_int1
def rAbs : List V → Hp → VK → Prop := fun xs H Q => ∃ i, xs = [.int i] ∧ Q (.int (if i < 0 then -i else i)) H
theorem call_abs' : CallR X (.builtin "abs") rAbs := call_abs
def rStrI : List V → Hp → VK → Prop := fun xs H Q => ∃ i, xs = [.int i] ∧ i.natAbs.log2 < 1920 ∧ Q (.str (toString i)) H
theorem call_str' : CallR X (.type "str") rStrI := call_str_int
def rIsNz : R2 := fun x y H Q => y = .non ∧ Q (.bl (decide (x = .non))) H
theorem op_isNz : OpR X (compareOp .Is) rIsNz := op_isN
def rNotNz : R2 := fun x y H Q => y = .non ∧ Q (.bl (!decide (x = .non))) H
theorem op_notNz : OpR X (compareOp .IsNot) rNotNz := op_notN
/-- a, b = a tuple or a list -/
def gUn (K : PySem.W.Frag) (n : Nat) (t : TGs) : TG := fun v σ H Q => gTup K n t v σ H Q ∨ gLst K n t v σ H Q
theorem pg_un {pos : Pos} {es : List Expr} {k : Nat} {t : TGs} {n : Nat} (hc : X.calm = true) (h : PGs X es t)
    (hn : (assignEach es X.env).length = n := by rfl) (hst : (assignEach es X.env).findIdx? (·.1) = none := by rfl) : PG X (.Tuple es k pos) (gUn X.K n t) :=
  ⟨fun pins s σ H v u Q I r hw => hw.elim (fun z => (pg_tup hc h hn hst).run pins s σ H v u Q I r z) fun z => (pg_lst hc h hn hst).run pins s σ H v u Q I r z⟩
def rIsi2 (K : PySem.W.Frag) : List V → Hp → VK → Prop := fun xs H Q => rIsi K xs H Q ∨ rIsiT K xs H Q
theorem call_isi' : CallR X (.builtin "isinstance") (rIsi2 X.K) := fun pins s σ H vs us Q I r h => h.elim (fun z => call_isi pins s σ H vs us Q I r z) (fun z => call_isiT pins s σ H vs us Q I r z)
end

def rJoin (K : PySem.W.Frag) : V → List V → Hp → VK → Prop := fun x xs H Q => ∃ a p, ∃ ys : List Str, x = .str a ∧ xs = [.ref p] ∧ (SqL K H p (ys.map V.str) ∨ SqT K H p (ys.map V.str)) ∧
  (ys.map (·.length)).sum + ys.length * a.length ≤ 16777216 ∧ Q (.str (Txt.join a ys)) H
def rWords : V → List V → Hp → VK → Prop := fun x xs H Q => ∃ a, x = .str a ∧ xs = [] ∧ a.length + 2 ≤ sizeLine ∧ rNewStrs (Txt.words a) H Q
def rSplit : V → List V → Hp → VK → Prop := fun x xs H Q => ∃ a b, x = .str a ∧ xs = [.str b] ∧ (b.length == 0) = false ∧ a.length + 2 ≤ sizeLine ∧ rNewStrs (Txt.split a b) H Q
def rUpper : V → List V → Hp → VK → Prop := fun x xs H Q => ∃ a, x = .str a ∧ xs = [] ∧ a.length ≤ 5592405 ∧ Q (.str (Txt.upper a)) H
def rRstrip : V → List V → Hp → VK → Prop := fun x xs H Q => ∃ a, x = .str a ∧ xs = [] ∧ a.length ≤ sizeLine ∧ Q (.str (Txt.rstrip a)) H
def rStrip : V → List V → Hp → VK → Prop := fun x xs H Q => ∃ a, x = .str a ∧ xs = [] ∧ a.length ≤ sizeLine ∧ Q (.str (Txt.strip a)) H
theorem sqT_mk {K : PySem.W.Frag} {H : Hp} {a : Addr} {xs : List V} {its : Array Value} {n : Nat} {od : Option Addr} {sl : Array (Option Value)} (l : K.lookup a = some ⟨.type "tuple", od, .seq its n, sl⟩) (hz : its.size ≤ 1000) (v : Vals xs its.toList) : SqT K H a xs :=
  .inr ⟨_, its, n, l, rfl, rfl, Nat.le_trans hz (by decide), v⟩

theorem at_ofN {α : Type} {xs : List α} {z : Int} {j : Nat} {v : α} (e : z = (j : Int)) (h : xs[j]? = some v) : atI xs z = some v := by
  rw [e]
  exact atI_nat h
/-! ### own functions without arguments, methods, made instances: what they may let out at the slots -/
section
open PySem.Calls
variable {X : Cx} {CX : CXT} {k : Nat} {f C : Addr} {fd : FuncData} {ps : List Str} {sp : Sp} {E : L2.St → XK} {x m : Str} {p pos apos : Pos} {e o : Expr} {es : List Expr} {ta : TE} {t : TA}
theorem pe_call0Z (F : FnOk X.prog X.w X.K X.mg X.base CX k f fd ps sp) (hr : Room k X.A) (hg : Gl X x) (hm : X.mg x = some (.ref f)) (hk : PySem.W.keepIn X.K (.ref f) = true) (hb : Binds X.K fd ps []) (hx : ∀ σ, PassesAt CX X σ (E σ))
    (hdb : (x == ("__debug__" : Str)) = false := by decide) : PE X (.Call (.Name x p) [] [] pos) (tCallS sp E tNil) := by
  refine ⟨fun pins s σ H Q I h => ?_⟩
  refine wpAny_Call_Name_kw (ld_glob I hg hm ?_ hdb)
  exact PySem.W.callWith_K0 I.kIn hk (run_fnS (us := []) F hr hb (hx σ) I .nil h)
def zSelf (C : Addr) (m : Str) (x : V) (H : Hp) (N : Prop) : Prop := ∃ a dx fs, x = .ref a ∧ H a = some (.ins C dx fs) ∧ fs.lookup m = none ∧ N
def tMethZ (C : Addr) (m : Str) (sp : Sp) (E : L2.St → XK) (ta : TE) (t : TA) : TE := fun σ H Q => ta σ H fun x H1 => ∃ a dx fs, x = .ref a ∧ H1 a = some (.ins C dx fs) ∧ fs.lookup m = none ∧ t σ H1 fun vs H2 => sp (x :: vs) H2 Q (E σ)
theorem pe_methZ {pl : Sem Bool} (he : PE X o ta) (c : Cls X.K C) (hm : Meth X.K C m f) (F : FnOk X.prog X.w X.K X.mg X.base CX k f fd ps sp) (hr : Room k X.A) (hb : Binds X.K fd ps []) (hx : ∀ σ, PassesAt CX X σ (E σ)) (ha : PA X (e :: es) t)
    (hst : starEach (e :: es) X.env = (false, eval e X.env) :: starEach es X.env := by rfl) (hpl : (backTo pos (starEach es X.env)).any (·.1) = false := by rfl)
    (ht : eval (.Call (.Attribute o m apos) (e :: es) [] pos) X.env = (do
      let ov ← eval o X.env
      standAt apos.atName
      let (f, first) ← holding [ov] (getMethod ov m pl)
      callWith pos f first (backTo pos (starEach (e :: es) X.env)) (backToKw pos (keywordEach [] X.env))) := by rfl) :
    PE X (.Call (.Attribute o m apos) (e :: es) [] pos) (tMethZ C m sp E ta t) := by
  refine ⟨fun pins s σ H Q I h => ?_⟩
  refine PySem.W.methodCall_KW (pl := pl) (thn (he.run pins s σ H _ I h) fun u s1 ⟨x, H1, I1, rx, a, dx, fs, ex, ea, l, q⟩ => ?_) ht
  subst ex
  obtain rfl : u = Value.ref a := rx
  refine getmeth_ok I1 ea c hm l ?_
  refine PySem.W.callWith_K (first := [.ref a]) (h₀ := X.base) I.ok.mod.kin hm.kp (thn (ha.run pos pins s1 σ H1 _ I1 q) fun us s2 ⟨vs, H2, I2, r, q2⟩ => ⟨I2.kIn, ?_⟩) hst hpl
  exact run_fnS (us := .ref a :: us) (vs := .ref a :: vs) F hr hb (hx σ) I2 (.cons rfl r) q2
theorem pe_meth0Z {pl : Sem Bool} (he : PE X o ta) (c : Cls X.K C) (hm : Meth X.K C m f) (F : FnOk X.prog X.w X.K X.mg X.base CX k f fd ps sp) (hr : Room k X.A) (hb : Binds X.K fd ps []) (hx : ∀ σ, PassesAt CX X σ (E σ))
    (ht : eval (.Call (.Attribute o m apos) [] [] pos) X.env = (do
      let ov ← eval o X.env
      standAt apos.atName
      let (f, first) ← holding [ov] (getMethod ov m pl)
      callWith pos f first (backTo pos (starEach [] X.env)) (backToKw pos (keywordEach [] X.env))) := by rfl) :
    PE X (.Call (.Attribute o m apos) [] [] pos) (tMethZ C m sp E ta tNil) := by
  refine ⟨fun pins s σ H Q I h => ?_⟩
  refine PySem.W.methodCall_KW (pl := pl) (thn (he.run pins s σ H _ I h) fun u s1 ⟨x, H1, I1, rx, a, dx, fs, ex, ea, l, q⟩ => ?_) ht
  subst ex
  obtain rfl : u = Value.ref a := rx
  refine getmeth_ok I1 ea c hm l ?_
  exact PySem.W.callWith_K0 (first := [.ref a]) I1.kIn hm.kp (run_fnS (us := [.ref a]) (vs := [.ref a]) F hr hb (hx σ) I1 (.cons rfl .nil) q)
def tMakeZ (C : Addr) (sp : Sp) (E : L2.St → XK) (t : TA) : TE := fun σ H Q => t σ H fun vs H1 => ∀ x dx, H1 x = none → H1 dx = none → dx ≠ x →
  sp (.ref x :: vs) (upd (upd H1 dx (.own x)) x (.ins C dx [])) (fun v H2 => v = .non ∧ Q (.ref x) H2) (E σ)
theorem run_makeZ {pins : List (Addr × Obj)} {σ : L2.St} {H : Hp} {s : Shared} {Q : VK} {us : List Value} {vs : List V} {E : XK} (M : Mk X.K C f) (F : FnOk X.prog X.w X.K X.mg X.base CX k f fd ps sp) (hr : Room (k + 1) X.A) (hb : Binds X.K fd ps [])
    (hx : PassesAt CX X σ E) (I : Inv X pins σ H s) (r : Vals vs us)
    (h : ∀ x dx, H x = none → H dx = none → dx ≠ x → sp (.ref x :: vs) (upd (upd H dx (.own x)) x (.ins C dx [])) (fun v H2 => v = .non ∧ Q (.ref x) H2) E) :
    wpAny (model X.prog X.w) X.A (call (.ref C) us) (EP X pins σ Q) X.xe s := by
  have hq := h (s.heap.objs.size + 1) s.heap.objs.size (I.hok.fresh (Nat.le_succ _)) (I.hok.fresh (Nat.le_refl _)) (Nat.ne_of_lt (Nat.lt_succ_self _))
  have I2 := Inv.made (C := C) I
  have r2 : Vals (V.ref (s.heap.objs.size + 1) :: vs) (Value.ref (s.heap.objs.size + 1) :: us) := .cons rfl r
  have hl : (Value.ref (s.heap.objs.size + 1) :: us).length = ps.length := by rw [← r2.length]; exact F.len _ _ _ _ hq
  have b := hb _ (Value.ref (s.heap.objs.size + 1) :: us) I2.kIn (by rw [List.append_nil]; exact hl)
  rw [List.append_nil] at b
  refine wpAny_call (make_map (f := f) I.kIn M.makes M.init (beq_iff_eq.mp M.fn) (codeAny_mono (F.run _ X.stack _ _ ⟨Value.ref (s.heap.objs.size + 1) :: us, []⟩ (Value.ref (s.heap.objs.size + 1) :: us) _ _ E (hr.make C us [])
    (I2.env0.make C us []) b r2 hq) fun r s' hq' => ?_))
  cases r with
  | error e => exact hx pins _ _ e s' I2 hq'
  | ok fl =>
    cases fl with
    | ret u =>
      obtain ⟨v, H', I3, rv, ev, q3⟩ := I2.after hq'
      subst ev
      exact ⟨rv, ⟨V.ref (s.heap.objs.size + 1), H', I3, rfl, q3⟩⟩
    | next => exact False.elim hq'
    | brk => exact False.elim hq'
    | cont => exact False.elim hq'
theorem pe_makeZ (M : Mk X.K C f) (F : FnOk X.prog X.w X.K X.mg X.base CX k f fd ps sp) (hr : Room (k + 1) X.A) (hg : Gl X x) (hm : X.mg x = some (.ref C)) (hb : Binds X.K fd ps []) (hx : ∀ σ, PassesAt CX X σ (E σ))
    (ha : PA X (e :: es) t) (hdb : (x == ("__debug__" : Str)) = false := by decide) (he : starEach (e :: es) X.env = (false, eval e X.env) :: starEach es X.env := by rfl) (hpl : (backTo pos (starEach es X.env)).any (·.1) = false := by rfl) :
    PE X (.Call (.Name x p) (e :: es) [] pos) (tMakeZ C sp E t) := by
  refine ⟨fun pins s σ H Q I h => ?_⟩
  refine wpAny_Call_Name_kw (ld_glob I hg hm ?_ hdb)
  refine PySem.W.callWith_K (h₀ := X.base) I.ok.mod.kin M.kp (thn (ha.run pos pins s σ H _ I h) fun us s1 ⟨vs, H1, I1, r, q⟩ => ⟨I1.kIn, ?_⟩) he hpl
  exact run_makeZ M F hr hb (hx σ) I1 r q
theorem pe_make0Z (M : Mk X.K C f) (F : FnOk X.prog X.w X.K X.mg X.base CX k f fd ps sp) (hr : Room (k + 1) X.A) (hg : Gl X x) (hm : X.mg x = some (.ref C)) (hb : Binds X.K fd ps []) (hx : ∀ σ, PassesAt CX X σ (E σ))
    (hdb : (x == ("__debug__" : Str)) = false := by decide) : PE X (.Call (.Name x p) [] [] pos) (tMakeZ C sp E tNil) := by
  refine ⟨fun pins s σ H Q I h => ?_⟩
  refine wpAny_Call_Name_kw (ld_glob I hg hm ?_ hdb)
  exact PySem.W.callWith_K0 I.kIn M.kp (run_makeZ (us := []) M F hr hb (hx σ) I .nil h)
/-- a statement that is never come to -/
def tNever : TS := fun _ _ _ => False
theorem ps_never {st : Stmt} : PS X st tNever := ⟨fun _ _ _ _ _ _ h => h.elim⟩
end
def zPutF (K : PySem.W.Frag) (x : V) (f : Str) (y : V) (H : Hp) (N : Hp → Prop) : Prop := ∃ a C dx fs, x = .ref a ∧ H a = some (.ins C dx fs) ∧ Cls K C ∧ NoAttr K C f ∧ fs.length < 1000 ∧ N (upd H a (.ins C dx (putF f y fs)))
def zMade (C : Addr) (H : Hp) (sp : V → Hp → Prop) : Prop := ∀ x dx, H x = none → H dx = none → dx ≠ x → sp (.ref x) (upd (upd H dx (.own x)) x (.ins C dx []))
/-! ### parts of readings by name -/
def zB (x : V) (H : Hp) (Q : Bool → Hp → Prop) : Prop := ∃ k, x = .bl k ∧ Q k H
def zTup (xs : List V) (H : Hp) (Q : VK) : Prop := xs.length ≤ sizeLine ∧ ∀ p, H p = none → Q (.ref p) (upd H p (.tup xs))
def zLst (xs : List V) (H : Hp) (Q : VK) : Prop := xs.length ≤ sizeLine ∧ ∀ p, H p = none → Q (.ref p) (upd H p (.lst xs))
def zIf (k : Bool) (A B : Prop) : Prop := if k = true then A else B
def zDGet (x y : V) (H : Hp) (Q : VK) : Prop := ∃ a v, x = .ref a ∧ DGet H a y (some v) ∧ Q v H
def zDIn (y x : V) (H : Hp) (Q : VK) : Prop := ∃ a o, x = .ref a ∧ DGet H a y o ∧ Q (.bl o.isSome) H
def zDNotIn (y x : V) (H : Hp) (Q : VK) : Prop := ∃ a o, x = .ref a ∧ DGet H a y o ∧ Q (.bl (!o.isSome)) H
def zDPut (x y v : V) (H : Hp) (N : Hp → Prop) : Prop := ∃ a H4, x = .ref a ∧ DPut H a y v H4 ∧ N H4
def zFld (K : PySem.W.Frag) (x : V) (f : Str) (H : Hp) (Q : VK) : Prop := ∃ a C dx fs v, x = .ref a ∧ H a = some (.ins C dx fs) ∧ Cls K C ∧ NoAttr K C f ∧ fs.lookup f = some v ∧ Q v H
def zTy (K : PySem.W.Frag) (T : String) (x : V) (H : Hp) (N : Prop) : Prop := tyV K T x H ∧ N
def zGTup (K : PySem.W.Frag) (n : Nat) (t : TGs) (v : V) (σ : L2.St) (H : Hp) (Q : L2.St → Hp → Prop) : Prop := ∃ a xs, v = .ref a ∧ (SqT K H a xs ∨ SqL K H a xs) ∧ xs.length = n ∧ t xs σ H Q

section
variable {K : PySem.W.Frag} {σ : L2.St} {H : Hp} {Q : VK} {QB : Bool → Hp → Prop} {QA : List V → Hp → Prop} {N b c : L2.St → Hp → Prop} {r : VK} {ta tb tc te : TE} {t u : TT} {tt tu : TS} {tA : TA} {g : TG} {v w x y : V} {i j : Int} {n : Nat} {p q a : Addr} {xs ys : List V} {rr rr' : R2} {k : Bool} {A B : Prop}

/-! ### statements -/
theorem s_seq (h : tt ⟨tu ⟨N, r, b, c⟩, r, b, c⟩ σ H) : tSeq tt tu ⟨N, r, b, c⟩ σ H := h
theorem s_cut (Mid : L2.St → Hp → Prop) (h1 : tt ⟨Mid, r, b, c⟩ σ H) (h2 : ∀ σ' H', Mid σ' H' → tu ⟨N, r, b, c⟩ σ' H') : C8.tCut tt tu ⟨N, r, b, c⟩ σ H := ⟨Mid, h1, h2⟩
theorem s_next (h : N σ H) : tNext ⟨N, r, b, c⟩ σ H := h
theorem s_break (h : b σ H) : tBreak ⟨N, r, b, c⟩ σ H := h
theorem s_cont (h : c σ H) : tCont ⟨N, r, b, c⟩ σ H := h
theorem s_ret (h : te σ H r) : tRet te ⟨N, r, b, c⟩ σ H := h
theorem s_retN (h : r .non H) : tRetN ⟨N, r, b, c⟩ σ H := h
theorem s_drop (h : te σ H fun _ H1 => N σ H1) : tDrop te ⟨N, r, b, c⟩ σ H := h
theorem s_set (h : te σ H fun v H1 => N (σ.set n (some v)) H1) : tAsg te (gName n) ⟨N, r, b, c⟩ σ H := h
theorem s_asg (h : te σ H fun v H1 => g v σ H1 N) : tAsg te g ⟨N, r, b, c⟩ σ H := h
theorem s_if (h : t σ H fun k H1 => zIf k (tt ⟨N, r, b, c⟩ σ H1) (tu ⟨N, r, b, c⟩ σ H1)) : tIfS t tt tu ⟨N, r, b, c⟩ σ H := h
theorem s_dput {td ty tv : TE} (h : tv σ H fun v H1 => td σ H1 fun x H2 => ty σ H2 fun y H3 => zDPut x y v H3 fun H4 => N σ H4) : sDPut td ty tv ⟨N, r, b, c⟩ σ H := h
/-! ### targets -/
theorem s_gname {NN : L2.St → Hp → Prop} (h : NN (σ.set n (some v)) H) : gName n v σ H NN := h
theorem s_gsub {to ti : TE} {ts : TSet} {NN : L2.St → Hp → Prop} (h : to σ H fun o H1 => ti σ H1 fun i H2 => ts o i v H2 fun H3 => NN σ H3) : gSub to ti ts v σ H NN := h
theorem s_gtup {tg : TGs} {NN : L2.St → Hp → Prop} (hs : SqT K H a xs) (hl : xs.length = n) (h : tg xs σ H NN) : gTup K n tg (.ref a) σ H NN := ⟨a, xs, rfl, hs, hl, h⟩
theorem s_gnil {NN : L2.St → Hp → Prop} (h : NN σ H) : gNil [] σ H NN := ⟨rfl, h⟩
theorem s_gcons {t1 : TG} {t2 : TGs} {NN : L2.St → Hp → Prop} (h : t1 v σ H fun σ' H' => t2 xs σ' H' NN) : gCons t1 t2 (v :: xs) σ H NN := ⟨v, xs, rfl, h⟩
/-! ### expressions -/
theorem s_var (h : σ[n]? = some (some v)) (q : Q v H) : tVar n σ H Q := ⟨v, h, q⟩
theorem s_c (q : Q v H) : tC v σ H Q := q
theorem s_op (h : ta σ H fun x H1 => tb σ H1 fun y H2 => rr x y H2 Q) : tOp rr ta tb σ H Q := h
theorem s_un {ru : V → Hp → VK → Prop} (h : ta σ H fun x H1 => ru x H1 Q) : tUn ru ta σ H Q := h
theorem s_cb {rc : List V → Hp → VK → Prop} (h : tA σ H fun vs H1 => rc vs H1 Q) : tCB rc tA σ H Q := h
theorem s_nil (h : QA [] H) : tNil σ H QA := h
theorem s_cons {tr : TA} (h : ta σ H fun x H1 => tr σ H1 fun xs H2 => QA (x :: xs) H2) : tCons ta tr σ H QA := h
theorem s_call {sp : Sp} {E : XK} (h : tA σ H fun vs H1 => sp vs H1 Q E) : tCall sp [] E tA σ H Q := by
  show tA σ H fun vs H1 => sp (vs ++ []) H1 Q E
  simp only [List.append_nil]
  exact h
theorem s_tup (h : tA σ H fun xs H1 => zTup xs H1 Q) : tTup tA σ H Q := h
theorem s_lst (h : tA σ H fun xs H1 => zLst xs H1 Q) : tLst tA σ H Q := h
theorem s_ztup (h : Nat.ble xs.length sizeLine = true) (h2 : ∀ p, H p = none → Q (.ref p) (upd H p (.tup xs))) : zTup xs H Q := ⟨Nat.le_of_ble_eq_true h, h2⟩
theorem s_zlst (h : Nat.ble xs.length sizeLine = true) (h2 : ∀ p, H p = none → Q (.ref p) (upd H p (.lst xs))) : zLst xs H Q := ⟨Nat.le_of_ble_eq_true h, h2⟩
theorem s_test (h : te σ H fun x H1 => zB x H1 QB) : tTest te σ H QB := h
theorem s_B (h : te σ H fun x H1 => zB x H1 QB) : tB te σ H QB := h
theorem s_zB (h : QB k H) : zB (.bl k) H QB := ⟨k, rfl, h⟩
theorem s_and (h : t σ H fun k H1 => zIf k (u σ H1 QB) (QB false H1)) : tAnd t u σ H QB := h
theorem s_or (h : t σ H fun k H1 => zIf k (QB true H1) (u σ H1 QB)) : tOr t u σ H QB := h
theorem s_not (h : t σ H fun k H1 => QB (!k) H1) : tNot t σ H QB := h
theorem s_chain (h : ta σ H fun x H1 => tb σ H1 fun y H2 => rr x y H2 fun z H3 => zB z H3 fun k H3 => zIf k (tc σ H3 fun w H4 => rr' y w H4 Q) (Q (.bl false) H3)) : tChain rr rr' ta tb tc σ H Q := h
theorem s_ifE (h : t σ H fun k H1 => zIf k (ta σ H1 Q) (tb σ H1 Q)) : tIf t ta tb σ H Q := h
theorem s_bm {T : String} {rm : V → List V → Hp → VK → Prop} (h : ta σ H fun x H1 => zTy K T x H1 (tA σ H1 fun xs H2 => rm x xs H2 Q)) : tBM K T rm ta tA σ H Q := h
theorem s_bm0 {T : String} {rm : V → List V → Hp → VK → Prop} (h : ta σ H fun x H1 => zTy K T x H1 (rm x [] H1 Q)) : tBM0 K T rm ta σ H Q := h
theorem s_fld {f : Str} (h : ta σ H fun x H1 => zFld K x f H1 Q) : tFld K ta f σ H Q := h
theorem s_meth {C : Addr} {m : Str} {sp : Sp} {W : WX} (h : ta σ H fun x H1 => zSelf C m x H1 (tA σ H1 fun vs H2 => sp (x :: vs) H2 Q (WE W σ))) : tMethZ C m sp (WE W) ta tA σ H Q := h
theorem s_zself {C dx : Addr} {m : Str} {fs : List (Str × V)} {N1 : Prop} (h1 : H p = some (.ins C dx fs)) (h2 : fs.lookup m = none) (h : N1) : zSelf C m (.ref p) H N1 := ⟨p, dx, fs, rfl, h1, h2, h⟩
theorem s_make {C : Addr} {sp : Sp} {W : WX} (h : tA σ H fun vs H1 => zMade C H1 fun x H2 => sp (x :: vs) H2 (fun v H2 => v = .non ∧ Q x H2) (WE W σ)) : tMakeZ C sp (WE W) tA σ H Q := h
theorem s_fldset {f : Str} (h : tb σ H fun y H1 => ta σ H1 fun x H2 => zPutF K x f y H2 fun H3 => N σ H3) : sFld K ta tb f ⟨N, r, b, c⟩ σ H := h
theorem s_zputF {C dx : Addr} {fs : List (Str × V)} {f : Str} {N1 : Hp → Prop} (h1 : H p = some (.ins C dx fs)) (hc : Cls K C) (hn : NoAttr K C f) (hl : fs.length < 1000) (h : N1 (upd H p (.ins C dx (putF f y fs)))) : zPutF K (.ref p) f y H N1 := ⟨p, C, dx, fs, rfl, h1, hc, hn, hl, h⟩
theorem s_dget {td ty : TE} (h : td σ H fun x H1 => ty σ H1 fun y H2 => zDGet x y H2 Q) : tDGet td ty σ H Q := h
theorem s_din {td ty : TE} (h : ty σ H fun y H1 => td σ H1 fun x H2 => zDIn y x H2 Q) : tDIn ty td σ H Q := h
theorem s_dnotin {td ty : TE} (h : ty σ H fun y H1 => td σ H1 fun x H2 => zDNotIn y x H2 Q) : tDNotIn ty td σ H Q := h
theorem s_dnew (h : ∀ p, H p = none → Q (.ref p) (upd H p (.dK []))) : tDNewK σ H Q := h
theorem s_disp {trs : List (TE × TE)} (h : ∀ p, H p = none → tPairs trs σ (upd H p (.dK [])) fun ps H2 => H2 p = some (.dK []) ∧ ∃ kvs : List (Key × V), ps = kvs.map (fun kv => (kV kv.1, kv.2)) ∧ kvs.length ≤ 15 ∧ Q (.ref p) (upd H2 p (.dK (mergeK [] kvs)))) : tDisp trs σ H Q := h
theorem s_pnil {QP : List (V × V) → Hp → Prop} (h : QP [] H) : tPairs [] σ H QP := h
theorem s_pcons {tk tv : TE} {trs : List (TE × TE)} {QP : List (V × V) → Hp → Prop} (h : tk σ H fun x H1 => tv σ H1 fun y H2 => tPairs trs σ H2 fun ps H3 => QP ((x, y) :: ps) H3) : tPairs ((tk, tv) :: trs) σ H QP := h
theorem s_andV (h : ta σ H fun x H1 => zB x H1 fun k H1 => zIf k (tb σ H1 Q) (Q (.bl false) H1)) : tAndV ta tb σ H Q := h
theorem s_orV (h : ta σ H fun x H1 => zB x H1 fun k H1 => zIf k (Q (.bl true) H1) (tb σ H1 Q)) : tOrV ta tb σ H Q := h
theorem s_notV (h : ta σ H fun x H1 => zB x H1 fun k H1 => Q (.bl (!k)) H1) : tNotV ta σ H Q := h
/-! ### by values -/
theorem s_rI0 {gg : Int → Int → V} (h : Q (gg i j) H) : rI0 gg (.int i) (.int j) H Q := ⟨i, j, rfl, rfl, h⟩
theorem s_rU {gg : Int → V} (h : Q (gg i) H) : rU gg (.int i) H Q := ⟨i, rfl, h⟩
theorem s_fdv (h0 : j ≠ 0 ∧ j.natAbs.log2 < 9000) (h : Q (.int (i.fdiv j)) H) : rFdv (.int i) (.int j) H Q := ⟨i, j, rfl, rfl, h0, h⟩
theorem s_mod (h0 : j ≠ 0) (h : Q (.int (i.fmod j)) H) : rMod (.int i) (.int j) H Q := ⟨i, j, rfl, rfl, h0, h⟩
theorem s_fdvp (h0 : 0 < j ∧ j < 2 ^ 64) (h : Q (.int (i / j)) H) : rFdv (.int i) (.int j) H Q := ⟨i, j, rfl, rfl, ⟨by omega, Nat.lt_of_lt_of_le (PySem.Flt.log2_lt_of (k := 64) (by decide) (by omega)) (by decide)⟩, by
  show Q (.int (i.fdiv j)) H
  rw [Int.fdiv_eq_ediv_of_nonneg i (by omega)]; exact h⟩
theorem s_modp (h0 : 0 < j) (h : Q (.int (i % j)) H) : rMod (.int i) (.int j) H Q := ⟨i, j, rfl, rfl, by omega, by
  show Q (.int (i.fmod j)) H
  rw [Int.fmod_eq_emod_of_nonneg i (by omega)]; exact h⟩
theorem s_mulp (h0 : (-18446744073709551616 < i ∧ i < 18446744073709551616) ∨ (-18446744073709551616 < j ∧ j < 18446744073709551616)) (h : Q (.int (i * j)) H) : rMul (.int i) (.int j) H Q := ⟨i, j, rfl, rfl, .inl h0, h⟩
theorem s_mul (h0 : CMul i j ∨ CMulW i j) (h : Q (.int (i * j)) H) : rMul (.int i) (.int j) H Q := ⟨i, j, rfl, rfl, h0, h⟩
theorem s_add_i (h : Q (.int (i + j)) H) : rAddU K (.int i) (.int j) H Q := .inl ⟨i, j, rfl, rfl, h⟩
theorem s_add_s {z w : Str} (h0 : z.length + w.length ≤ sizeLine) (h : Q (.str (z ++ w)) H) : rAddU K (.str z) (.str w) H Q := .inr (.inl ⟨z, w, rfl, rfl, h0, h⟩)
theorem s_add_l (h1 : H p = some (.lst xs)) (h2 : H q = some (.lst ys)) (h0 : xs.length + ys.length ≤ sizeLine) (h : ∀ a, H a = none → Q (.ref a) (upd H a (.lst (xs ++ ys)))) : rAddU K (.ref p) (.ref q) H Q := .inr (.inr (.inl ⟨p, q, xs, ys, rfl, rfl, h1, h2, h0, h⟩))
theorem s_add_t (h1 : SqT K H p xs) (h2 : SqT K H q ys) (hx : xs ≠ []) (hy : ys ≠ []) (h0 : xs.length + ys.length ≤ sizeLine) (h : ∀ a, H a = none → Q (.ref a) (upd H a (.tup (xs ++ ys)))) : rAddU K (.ref p) (.ref q) H Q := .inr (.inr (.inr ⟨p, q, xs, ys, rfl, rfl, h1, h2, hx, h0, fun e => absurd e hy, fun _ => h⟩))
theorem s_eq_i (h : Q (.bl (decide (i = j))) H) : rEqU K (.int i) (.int j) H Q := .inl ⟨rfl, by rw [show decide (V.int i = V.int j) = decide (i = j) by simp]; exact h⟩
theorem s_ne_i (h : Q (.bl (!decide (i = j))) H) : rNeU K (.int i) (.int j) H Q := .inl ⟨rfl, by rw [show decide (V.int i = V.int j) = decide (i = j) by simp]; exact h⟩
theorem s_eq_s {z w : Str} (h : Q (.bl (decide (z = w))) H) : rEqU K (.str z) (.str w) H Q := .inl ⟨rfl, by rw [show decide (V.str z = V.str w) = decide (z = w) by simp]; exact h⟩
theorem s_ne_s {z w : Str} (h : Q (.bl (!decide (z = w))) H) : rNeU K (.str z) (.str w) H Q := .inl ⟨rfl, by rw [show decide (V.str z = V.str w) = decide (z = w) by simp]; exact h⟩
theorem s_eq_v (h0 : scal x y = true) (h : Q (.bl (decide (x = y))) H) : rEqU K x y H Q := .inl ⟨h0, h⟩
theorem s_ne_v (h0 : scal x y = true) (h : Q (.bl (!decide (x = y))) H) : rNeU K x y H Q := .inl ⟨h0, h⟩
theorem s_eq_d {d e : PyData} (h1 : Dp K H x d) (h2 : Dp K H y e) (h3 : SeqAt.shaped d = true) (h4 : SeqAt.shaped e = true) (h : Q (.bl (PyData.eqv d e)) H) : rEqU K x y H Q := .inr ⟨d, e, h1, h2, h3, h4, h⟩
theorem s_ne_d {d e : PyData} (h1 : Dp K H x d) (h2 : Dp K H y e) (h3 : SeqAt.shaped d = true) (h4 : SeqAt.shaped e = true) (h : Q (.bl (!PyData.eqv d e)) H) : rNeU K x y H Q := .inr ⟨d, e, h1, h2, h3, h4, h⟩
theorem s_ix_l (h1 : SqL K H p xs) (h2 : atI xs i = some v) (h : Q v H) : rIx K (.ref p) (.int i) H Q := .inl ⟨p, xs, i, v, rfl, rfl, h1, h2, h⟩
theorem s_ix_t (h1 : SqT K H p xs) (h2 : atI xs i = some v) (h : Q v H) : rIx K (.ref p) (.int i) H Q := .inr (.inl ⟨p, xs, i, v, rfl, rfl, h1, h2, h⟩)
theorem s_ix_s {z : Str} {cc : Nat} (h1 : z.length ≤ sizeLine) (h2 : atI z.cps.toList i = some cc) (h : Q (.str ⟨#[cc]⟩) H) : rIx K (.str z) (.int i) H Q := .inr (.inr ⟨z, i, cc, rfl, rfl, h1, h2, h⟩)
theorem s_setL {N1 : Hp → Prop} (h1 : H p = some (.lst xs)) (h2 : ixN xs.length i = some n) (h : N1 (upd H p (.lst (xs.set n v)))) : rSetL (.ref p) (.int i) v H N1 := ⟨p, xs, i, n, rfl, rfl, h1, h2, h⟩
theorem s_len_l (h1 : SqL K H p xs) (h : Q (.int xs.length) H) : rLen K [.ref p] H Q := ⟨_, xs.length, rfl, .inl ⟨xs, h1, rfl⟩, h⟩
theorem s_len_t (h1 : SqT K H p xs) (h : Q (.int xs.length) H) : rLen K [.ref p] H Q := ⟨_, xs.length, rfl, .inr ⟨xs, h1, rfl⟩, h⟩
theorem s_len_s {z : Str} (h1 : z.length ≤ sizeLine) (h : Q (.int z.length) H) : rLen K [.str z] H Q := ⟨_, z.length, rfl, ⟨h1, rfl⟩, h⟩
theorem s_min2 (h : Q (.int (if j < i then j else i)) H) : rMin2 [.int i, .int j] H Q := ⟨i, j, rfl, h⟩
theorem s_max2 (h : Q (.int (if j > i then j else i)) H) : rMax2 [.int i, .int j] H Q := ⟨i, j, rfl, h⟩
theorem s_listof_l (h1 : SqL K H p xs) (h : ∀ l, H l = none → Q (.ref l) (upd H l (.lst xs))) : rListOf K [.ref p] H Q := ⟨p, xs, rfl, .inl h1, h⟩
theorem s_listof_t (h1 : SqT K H p xs) (h : ∀ l, H l = none → Q (.ref l) (upd H l (.lst xs))) : rListOf K [.ref p] H Q := ⟨p, xs, rfl, .inr h1, h⟩
theorem s_tupof_l (h1 : SqL K H p xs) (h : ∀ l, H l = none → Q (.ref l) (upd H l (.tup xs))) : rTupOf K [.ref p] H Q := ⟨p, xs, rfl, .inl ⟨h1, h⟩⟩
theorem s_tupof_t (h1 : SqT K H p xs) (h : Q (.ref p) H) : rTupOf K [.ref p] H Q := ⟨p, xs, rfl, .inr ⟨h1, h⟩⟩
theorem s_int1 (h : Q (.int i) H) : rInt1 [.int i] H Q := .inl ⟨i, rfl, h⟩
theorem s_int1b (h : Q (.int (if k then 1 else 0)) H) : rInt1 [.bl k] H Q := .inr ⟨k, rfl, h⟩
theorem s_abs (h : Q (.int (if i < 0 then -i else i)) H) : rAbs [.int i] H Q := ⟨i, rfl, h⟩
theorem s_strI (h0 : i.natAbs.log2 < 1920) (h : Q (.str (toString i)) H) : rStrI [.int i] H Q := ⟨i, rfl, h0, h⟩
theorem s_isi {cc : V} {ty uu : Value} {bb : Bool} (h1 : ClsV cc uu) (h2 : TyX K H x ty) (h3 : PySem.W.kitOne K ty uu = some bb) (h : Q (.bl bb) H) : rIsi2 K [x, cc] H Q := .inl ⟨x, cc, ty, uu, bb, rfl, h1, h2, h3, h⟩
theorem s_isN_i (h : Q (.bl false) H) : rIsNz (.int i) .non H Q := ⟨rfl, by rw [decide_eq_false (by intro z; cases z)]; exact h⟩
theorem s_isN_r (h : Q (.bl false) H) : rIsNz (.ref p) .non H Q := ⟨rfl, by rw [decide_eq_false (by intro z; cases z)]; exact h⟩
theorem s_isN_s {z : Str} (h : Q (.bl false) H) : rIsNz (.str z) .non H Q := ⟨rfl, by rw [decide_eq_false (by intro z; cases z)]; exact h⟩
theorem s_isN_n (h : Q (.bl true) H) : rIsNz .non .non H Q := ⟨rfl, by rw [decide_eq_true rfl]; exact h⟩
theorem s_notN_i (h : Q (.bl true) H) : rNotNz (.int i) .non H Q := ⟨rfl, by rw [decide_eq_false (by intro z; cases z)]; exact h⟩
theorem s_notN_r (h : Q (.bl true) H) : rNotNz (.ref p) .non H Q := ⟨rfl, by rw [decide_eq_false (by intro z; cases z)]; exact h⟩
theorem s_notN_s {z : Str} (h : Q (.bl true) H) : rNotNz (.str z) .non H Q := ⟨rfl, by rw [decide_eq_false (by intro z; cases z)]; exact h⟩
theorem s_notN_n (h : Q (.bl false) H) : rNotNz .non .non H Q := ⟨rfl, by rw [decide_eq_true rfl]; exact h⟩
theorem s_slL {te' : TE} {tl th : TO} {rs : V → Option Int → Option Int → Hp → VK → Prop} (h : te' σ H fun x H1 => tl σ H1 fun l H2 => th σ H2 fun u H3 => rs x l u H3 Q) : tSl rs te' tl th σ H Q := h
theorem s_nopart {QO : Option Int → Hp → Prop} (h : QO none H) : tNoPart σ H QO := h
def zPart (x : V) (H : Hp) (QO : Option Int → Hp → Prop) : Prop := ∃ i, x = .int i ∧ QO (some i) H
theorem s_part {QO : Option Int → Hp → Prop} (h : te σ H fun x H1 => zPart x H1 QO) : tPart te σ H QO := h
theorem s_zpart {QO : Option Int → Hp → Prop} (h : QO (some i) H) : zPart (.int i) H QO := ⟨i, rfl, h⟩
theorem s_cutL {lo hi : Option Int} (h1 : SqL K H a xs) (h : ∀ p, H p = none → Q (.ref p) (upd H p (.lst (cutV xs lo hi)))) : rSlL K (.ref a) lo hi H Q := ⟨a, xs, rfl, h1, h⟩
theorem s_isN (h : Q (.bl (decide (x = .non))) H) : rIsNz x .non H Q := ⟨rfl, h⟩
theorem s_notN (h : Q (.bl (!decide (x = .non))) H) : rNotNz x .non H Q := ⟨rfl, h⟩
theorem s_gun_t {tg : TGs} {NN : L2.St → Hp → Prop} (hs : SqT K H a xs) (hl : xs.length = n) (h : tg xs σ H NN) : gUn K n tg (.ref a) σ H NN := .inl ⟨a, xs, rfl, hs, hl, h⟩
theorem s_gun_l {tg : TGs} {NN : L2.St → Hp → Prop} (hs : SqL K H a xs) (hl : xs.length = n) (h : tg xs σ H NN) : gUn K n tg (.ref a) σ H NN := .inr ⟨a, xs, rfl, hs, hl, h⟩
theorem s_p18 (h : Q (.int 1000000000000000000) H) : rI CPow (fun i j => .int (i ^ j.toNat)) (.int 10) (.int 18) H Q := ⟨10, 18, rfl, rfl, by unfold CPow; decide, h⟩
theorem s_callS {W : WX} {sp : Sp} (h : tA σ H fun vs H1 => sp vs H1 Q (WE W σ)) : tCallS sp (WE W) tA σ H Q := h
theorem s_in_l (h1 : SqL K H p xs) (h2 : flatV x = true) (h3 : xs.all flatV = true) (h : Q (.bl (inV x xs)) H) : rIn K false x (.ref p) H Q := ⟨p, xs, rfl, .inl h1, h2, h3, h⟩
theorem s_in_t (h1 : SqT K H p xs) (h2 : flatV x = true) (h3 : xs.all flatV = true) (h : Q (.bl (inV x xs)) H) : rIn K false x (.ref p) H Q := ⟨p, xs, rfl, .inr h1, h2, h3, h⟩
theorem s_nin_l (h1 : SqL K H p xs) (h2 : flatV x = true) (h3 : xs.all flatV = true) (h : Q (.bl (!inV x xs)) H) : rIn K true x (.ref p) H Q := ⟨p, xs, rfl, .inl h1, h2, h3, h⟩
theorem s_nin_t (h1 : SqT K H p xs) (h2 : flatV x = true) (h3 : xs.all flatV = true) (h : Q (.bl (!inV x xs)) H) : rIn K true x (.ref p) H Q := ⟨p, xs, rfl, .inr h1, h2, h3, h⟩
theorem s_append (h1 : H p = some (.lst xs)) (h2 : xs.length < sizeLine) (h : Q .non (upd H p (.lst (xs ++ [v])))) : rAppend (.ref p) [v] H Q := ⟨p, xs, v, rfl, rfl, h1, h2, h⟩
theorem s_zTyL {N0 : Prop} (h1 : H p = some (.lst xs)) (h : N0) : zTy K "list" (.ref p) H N0 := ⟨.inl ⟨rfl, xs, .inl (.inl h1)⟩, h⟩
theorem s_zTyS {N0 : Prop} {z : Str} (h : N0) : zTy K "str" (.str z) H N0 := ⟨rfl, h⟩
theorem s_zTyL' {N0 : Prop} (h1 : SqL K H p xs) (h : N0) : zTy K "list" (.ref p) H N0 := ⟨.inl ⟨rfl, xs, h1⟩, h⟩
theorem s_join_l {z : Str} {ys : List Str} (h1 : SqL K H p (ys.map V.str)) (h2 : (ys.map (·.length)).sum + ys.length * z.length ≤ 16777216) (h : Q (.str (Txt.join z ys)) H) : rJoin K (.str z) [.ref p] H Q := ⟨z, p, ys, rfl, rfl, .inl h1, h2, h⟩
theorem s_index {y z : V} {j : Nat} (h1 : SqL K H p xs) (h2 : flatV y = true) (h3 : xs.all flatV = true) (h4 : xs[j]? = some z) (h5 : eqV z y = true) (h6 : ∀ (m : Nat) (z' : V), m < j → xs[m]? = some z' → eqV z' y = false) (h : Q (.int (j : Nat)) H) : rIndex K (.ref p) [y] H Q := ⟨p, xs, y, j, z, rfl, rfl, h1, h2, h3, h4, h5, h6, h⟩
theorem s_slS {z : Str} {lo hi : Option Int} (h1 : z.length ≤ sizeLine) (h : Q (.str (cutS z lo hi)) H) : rSlS (.str z) lo hi H Q := ⟨z, rfl, h1, h⟩
theorem s_zDGet_s {z : Str} {kvs : List (Key × V)} (h1 : Rd H p (.dK kvs)) (h2 : valV kvs (Sum.inr z : Key) = some v) (h : Q v H) : zDGet (.ref p) (.str z) H Q := ⟨p, v, rfl, .inl ⟨kvs, Sum.inr z, h1, rfl, h2.symm⟩, h⟩
theorem s_zDGet_i {kvs : List (Key × V)} (h1 : Rd H p (.dK kvs)) (h2 : valV kvs (Sum.inl i : Key) = some v) (h : Q v H) : zDGet (.ref p) (.int i) H Q := ⟨p, v, rfl, .inl ⟨kvs, Sum.inl i, h1, rfl, h2.symm⟩, h⟩
theorem s_zDIn_s {z : Str} {kvs : List (Key × V)} (h1 : Rd H p (.dK kvs)) (h : Q (.bl (valV kvs (Sum.inr z : Key)).isSome) H) : zDIn (.str z) (.ref p) H Q := ⟨p, _, rfl, .inl ⟨kvs, Sum.inr z, h1, rfl, rfl⟩, h⟩
theorem s_zDIn_i {kvs : List (Key × V)} (h1 : Rd H p (.dK kvs)) (h : Q (.bl (valV kvs (Sum.inl i : Key)).isSome) H) : zDIn (.int i) (.ref p) H Q := ⟨p, _, rfl, .inl ⟨kvs, Sum.inl i, h1, rfl, rfl⟩, h⟩
theorem s_zDNotIn_s {z : Str} {kvs : List (Key × V)} (h1 : Rd H p (.dK kvs)) (h : Q (.bl (!(valV kvs (Sum.inr z : Key)).isSome)) H) : zDNotIn (.str z) (.ref p) H Q := ⟨p, _, rfl, .inl ⟨kvs, Sum.inr z, h1, rfl, rfl⟩, h⟩
theorem s_zDNotIn_i {kvs : List (Key × V)} (h1 : Rd H p (.dK kvs)) (h : Q (.bl (!(valV kvs (Sum.inl i : Key)).isSome)) H) : zDNotIn (.int i) (.ref p) H Q := ⟨p, _, rfl, .inl ⟨kvs, Sum.inl i, h1, rfl, rfl⟩, h⟩
theorem s_zDPut_s {z : Str} {kvs : List (Key × V)} {N1 : Hp → Prop} (h1 : H p = some (.dK kvs)) (h2 : kvs.length < sizeLine) (h : N1 (upd H p (.dK (putK kvs (Sum.inr z : Key) v)))) : zDPut (.ref p) (.str z) v H N1 := ⟨p, _, rfl, .inl ⟨kvs, Sum.inr z, h1, rfl, h2, rfl⟩, h⟩
theorem s_zDPut_i {kvs : List (Key × V)} {N1 : Hp → Prop} (h1 : H p = some (.dK kvs)) (h2 : kvs.length < sizeLine) (h : N1 (upd H p (.dK (putK kvs (Sum.inl i : Key) v)))) : zDPut (.ref p) (.int i) v H N1 := ⟨p, _, rfl, .inl ⟨kvs, Sum.inl i, h1, rfl, h2, rfl⟩, h⟩
theorem s_zFld {C dx : Addr} {fs : List (Str × V)} {f : Str} (h1 : H p = some (.ins C dx fs)) (hc : Cls K C) (hn : NoAttr K C f) (hl : fs.lookup f = some v) (h : Q v H) : zFld K (.ref p) f H Q := ⟨p, C, dx, fs, v, rfl, h1, hc, hn, hl, h⟩
/-! ### ways -/
theorem s_ift (h : A) : zIf true A B := by unfold zIf; rw [if_pos rfl]; exact h
theorem s_iff (h : B) : zIf false A B := by unfold zIf; rw [if_neg Bool.false_ne_true]; exact h
theorem s_ifnn {D : Prop} [Decidable D] (h1 : ¬ D → A) (h2 : D → B) : zIf (!decide D) A B := by
  by_cases h : D
  · rw [decide_eq_true h]; exact s_iff (h2 h)
  · rw [decide_eq_false h]; exact s_ift (h1 h)
theorem s_nt (h : B) : zIf (!true) A B := s_iff h
theorem s_nf (h : A) : zIf (!false) A B := s_ift h
theorem s_ifd {D : Prop} [Decidable D] (h1 : D → A) (h2 : ¬ D → B) : zIf (decide D) A B := by
  by_cases h : D
  · rw [decide_eq_true h]; exact s_ift (h1 h)
  · rw [decide_eq_false h]; exact s_iff (h2 h)
theorem s_ifn {D : Prop} [Decidable D] (h1 : ¬ D → A) (h2 : D → B) : zIf (!decide D) A B := by
  by_cases h : D
  · rw [decide_eq_true h]; exact s_iff (h2 h)
  · rw [decide_eq_false h]; exact s_ift (h1 h)
theorem s_ifdt {D : Prop} [Decidable D] (h : D) (h1 : A) : zIf (decide D) A B := by rw [decide_eq_true h]; exact s_ift h1
theorem s_ifdf {D : Prop} [Decidable D] (h : ¬ D) (h1 : B) : zIf (decide D) A B := by rw [decide_eq_false h]; exact s_iff h1
theorem s_ifk (h1 : k = true → A) (h2 : k = false → B) : zIf k A B := by
  cases k with
  | true => exact s_ift (h1 rfl)
  | false => exact s_iff (h2 rfl)
theorem s_ifkt (h : k = true) (h1 : A) : zIf k A B := by subst h; exact s_ift h1
theorem s_ifkf (h : k = false) (h1 : B) : zIf k A B := by subst h; exact s_iff h1
/-! ### loops -/
/-- a loop whose iterator stands -/
def zLoop (J : It) (g : TG) (tb : TS) (D : Ends) (σ : L2.St) (H1 : Hp) : Prop := ∃ W : Nat → Nat → L2.St → Hp → Prop, (∃ m, W 0 m σ H1) ∧ ∀ i m σ H, W i m σ H →
  (J.stop i H ∧ D.nx σ H) ∨ (J.go i H ∧ ∃ N : L2.St → Hp → Prop, (∀ σ' H', N σ' H' → ∃ m', m' < m ∧ W (i + 1) m' σ' H') ∧ ∀ x H', J.yld i H x H' → g x σ H' fun σ2 H2 => tb { D with nx := N, ct := N, bk := D.nx } σ2 H2)
def zRng1 (vs : List V) (H : Hp) (R : It → Hp → Prop) : Prop := ∃ j : Int, vs = [.int j] ∧ -(2 ^ 62) ≤ j ∧ j < 2 ^ 62 ∧ R (Itr 0 j.toNat) H
def zRng2 (vs : List V) (H : Hp) (R : It → Hp → Prop) : Prop := ∃ i j : Int, vs = [.int i, .int j] ∧ (-(2 ^ 62) ≤ i ∧ i < 2 ^ 62 ∧ -(2 ^ 62) ≤ j ∧ j < 2 ^ 62) ∧ R (Itr i (j - i).toNat) H
def zItL (K : PySem.W.Frag) (x : V) (H : Hp) (R : It → Hp → Prop) : Prop := ∃ a, x = .ref a ∧ (∃ xs, SqL K H a xs) ∧ R (Itl K a) H
def zItT (K : PySem.W.Frag) (x : V) (H : Hp) (R : It → Hp → Prop) : Prop := ∃ a, x = .ref a ∧ (∃ xs, SqT K H a xs) ∧ R (Itt K a) H
/-- a comprehension whose iterator stands -/
def zLc (J : It) (g : TG) (t : TT) (te : TE) (vs : List Nat) (σ : L2.St) (H1 : Hp) (Q : VK) : Prop := ∀ D, H1 D = none → ∃ W : Nat → Nat → Hp → Prop, (∃ m, W 0 m (upd H1 D (.lst []))) ∧ ∀ i m H, W i m H →
  (J.stop i H ∧ Q (.ref D) H) ∨ (J.go i H ∧ ∃ Nx : Hp → Prop, (∀ H', Nx H' → ∃ m', m' < m ∧ W (i + 1) m' H') ∧ ∀ x H', J.yld i H x H' → g x (wipe σ vs) H' fun σ2 H2 => wipe σ2 vs = wipe σ vs ∧ t σ2 H2 fun b H3 =>
    if b = true then te σ2 H3 fun y H4 => ∃ acc, H4 D = some (.lst acc) ∧ acc.length < sizeLine ∧ Nx (upd H4 D (.lst (acc ++ [y]))) else Nx H3)
def zWipe (vs : List Nat) (σ σ2 : L2.St) (A : Prop) : Prop := wipe σ2 vs = wipe σ vs ∧ A
def zAcc (D : Addr) (y : V) (H : Hp) (P : Hp → Prop) : Prop := ∃ acc, H D = some (.lst acc) ∧ acc.length < sizeLine ∧ P (upd H D (.lst (acc ++ [y])))
theorem s_lc {wi : TI} {vs : List Nat} (h : wi σ H fun J H1 => zLc J g t te vs σ H1 Q) : tLc wi g t te vs σ H Q := h
theorem s_yes (h : QB true H) : tYes σ H QB := h
theorem s_wipe {vs : List Nat} {σ2 : L2.St} (h : wipe σ2 vs = wipe σ vs) (h1 : A) : zWipe vs σ σ2 A := ⟨h, h1⟩
theorem s_acc {D : Addr} {acc : List V} {P : Hp → Prop} (h1 : H D = some (.lst acc)) (h2 : acc.length < sizeLine) (h : P (upd H D (.lst (acc ++ [y])))) : zAcc D y H P := ⟨acc, h1, h2, h⟩
theorem lc_rng {lo : Int} {vs : List Nat} (Pv : Addr → Nat → Hp → Prop) (h0 : ∀ D, H D = none → Pv D 0 (upd H D (.lst [])))
    (hs : ∀ D i H', H D = none → i < n → Pv D i H' → g (.int (lo + (i : Int))) (wipe σ vs) H' fun σ2 H2 => zWipe vs σ σ2 (t σ2 H2 fun k H3 => zIf k (te σ2 H3 fun y H4 => zAcc D y H4 (Pv D (i + 1))) (Pv D (i + 1) H3)))
    (hd : ∀ D H', H D = none → Pv D n H' → Q (.ref D) H') : zLc (Itr lo n) g t te vs σ H Q := fun D hD =>
  lc_range (Pv D) (h0 D hD) (fun i H' hi hp => hs D i H' hD hi hp) (fun H' hp => hd D H' hD hp)
theorem lc_lst {vs : List Nat} (xs : List V) (Pv : Addr → Nat → Hp → Prop) (h0 : ∀ D, H D = none → Pv D 0 (upd H D (.lst []))) (hl : ∀ D i H', H D = none → i ≤ xs.length → Pv D i H' → SqL K H' p xs)
    (hs : ∀ D i x H', H D = none → xs[i]? = some x → Pv D i H' → g x (wipe σ vs) H' fun σ2 H2 => zWipe vs σ σ2 (t σ2 H2 fun k H3 => zIf k (te σ2 H3 fun y H4 => zAcc D y H4 (Pv D (i + 1))) (Pv D (i + 1) H3)))
    (hd : ∀ D H', H D = none → Pv D xs.length H' → Q (.ref D) H') : zLc (Itl K p) g t te vs σ H Q := fun D hD =>
  lc_list (xs := xs) (Pv D) (h0 D hD) (fun i H' hi hp => hl D i H' hD hi hp) (fun i x H' hx hp => hs D i x H' hD hx hp) (fun H' hp => hd D H' hD hp)
theorem s_for {wi : TI} {tb1 : TS} (h : wi σ H fun J H1 => zLoop J g tb1 ⟨N, r, b, c⟩ σ H1) : tFor wi g tb1 ⟨N, r, b, c⟩ σ H := h
theorem s_rng1 {R : It → Hp → Prop} (h : tA σ H fun vs H1 => zRng1 vs H1 R) : iRng1 tA σ H R := h
theorem s_rng2 {R : It → Hp → Prop} (h : tA σ H fun vs H1 => zRng2 vs H1 R) : iRng2 tA σ H R := h
theorem s_itl {R : It → Hp → Prop} (h : te σ H fun x H1 => zItL K x H1 R) : iList K te σ H R := h
theorem s_itt {R : It → Hp → Prop} (h : te σ H fun x H1 => zItT K x H1 R) : iTup K te σ H R := h
theorem s_zrng1 {R : It → Hp → Prop} (h1 : -(2 ^ 62) ≤ j ∧ j < 2 ^ 62) (h : R (Itr 0 j.toNat) H) : zRng1 [.int j] H R := ⟨j, rfl, h1.1, h1.2, h⟩
theorem s_zrng2 {R : It → Hp → Prop} (h1 : -(2 ^ 62) ≤ i ∧ i < 2 ^ 62 ∧ -(2 ^ 62) ≤ j ∧ j < 2 ^ 62) (h : R (Itr i (j - i).toNat) H) : zRng2 [.int i, .int j] H R := ⟨i, j, rfl, h1, h⟩
theorem s_zitl {R : It → Hp → Prop} (h1 : SqL K H p xs) (h : R (Itl K p) H) : zItL K (.ref p) H R := ⟨p, rfl, ⟨xs, h1⟩, h⟩
theorem s_zitt {R : It → Hp → Prop} (h1 : SqT K H p xs) (h : R (Itt K p) H) : zItT K (.ref p) H R := ⟨p, rfl, ⟨xs, h1⟩, h⟩
theorem loop_range {tb1 : TS} {lo : Int} (Pv : Nat → L2.St → Hp → Prop) (h0 : Pv 0 σ H) (hs : ∀ i σ' H', i < n → Pv i σ' H' → g (.int (lo + (i : Int))) σ' H' fun σ2 H2 => tb1 ⟨Pv (i + 1), r, N, Pv (i + 1)⟩ σ2 H2)
    (hd : ∀ σ' H', Pv n σ' H' → N σ' H') : zLoop (Itr lo n) g tb1 ⟨N, r, b, c⟩ σ H := for_range (D := ⟨N, r, b, c⟩) Pv h0 hs hd
theorem loop_list {tb1 : TS} (xs : List V) (Pv : Nat → L2.St → Hp → Prop) (h0 : Pv 0 σ H) (hl : ∀ i σ' H', i ≤ xs.length → Pv i σ' H' → SqL K H' p xs)
    (hs : ∀ i x σ' H', xs[i]? = some x → Pv i σ' H' → g x σ' H' fun σ2 H2 => tb1 ⟨Pv (i + 1), r, N, Pv (i + 1)⟩ σ2 H2) (hd : ∀ σ' H', Pv xs.length σ' H' → N σ' H') : zLoop (Itl K p) g tb1 ⟨N, r, b, c⟩ σ H :=
  for_list (D := ⟨N, r, b, c⟩) (xs := xs) Pv h0 hl hs hd
theorem loop_tup {tb1 : TS} (xs : List V) (Pv : Nat → L2.St → Hp → Prop) (h0 : Pv 0 σ H) (hl : ∀ i σ' H', i ≤ xs.length → Pv i σ' H' → SqT K H' p xs)
    (hs : ∀ i x σ' H', xs[i]? = some x → Pv i σ' H' → g x σ' H' fun σ2 H2 => tb1 ⟨Pv (i + 1), r, N, Pv (i + 1)⟩ σ2 H2) (hd : ∀ σ' H', Pv xs.length σ' H' → N σ' H') : zLoop (Itt K p) g tb1 ⟨N, r, b, c⟩ σ H :=
  for_tup (D := ⟨N, r, b, c⟩) (xs := xs) Pv h0 hl hs hd
def zBody (W : Nat → L2.St → Hp → Prop) (m : Nat) (tb : TS) (D : Ends) (σ : L2.St) (H1 : Hp) : Prop := ∃ N1 : L2.St → Hp → Prop, (∀ σ' H', N1 σ' H' → ∃ m', m' < m ∧ W m' σ' H') ∧ tb { D with nx := N1, ct := N1, bk := D.nx } σ H1
theorem s_zbody {W : Nat → L2.St → Hp → Prop} {m : Nat} {tb1 : TS} (h : tb1 ⟨fun σ2 H2 => ∃ m', m' < m ∧ W m' σ2 H2, r, N, fun σ2 H2 => ∃ m', m' < m ∧ W m' σ2 H2⟩ σ H) : zBody W m tb1 ⟨N, r, b, c⟩ σ H := ⟨_, fun σ2 H2 z => z, h⟩
theorem s_while {tb1 : TS} (W : Nat → L2.St → Hp → Prop) (m0 : Nat) (h0 : W m0 σ H)
    (hs : ∀ (m : Nat) σ' H', W m σ' H' → t σ' H' fun k H1 => zIf k (zBody W m tb1 ⟨N, r, b, c⟩ σ' H1) (N σ' H1)) : tWhile t tb1 ⟨N, r, b, c⟩ σ H := ⟨W, ⟨m0, h0⟩, fun m σ' H' w => hs m σ' H' w⟩
/-! ### heaps -/
theorem up_new {H : Hp} {q a : Addr} {o u : HO} (hq : H q = none) (h : H a = some o) : upd H q u a = some o := by rw [upd_ne (ne_of_none h hq)]; exact h
theorem up_far {H : Hp} {q a : Addr} {o u : HO} (hn : a ≠ q) (h : H a = some o) : upd H q u a = some o := by rw [upd_ne hn]; exact h
theorem sm_rd {H H' : Hp} {a : Addr} {o : HO} (S : Same H H') (h : H a = some o) : H' a = some o := S a o h
theorem same_new {H : Hp} {p : Addr} {o : HO} (h : H p = none) : Same H (upd H p o) := fun b u q => by rw [upd_ne (ne_of_none q h)]; exact q
def Fz : HO → Prop
  | .frz _ _ => True
  | _ => False
/-- all but what stands at p (and isn't locked) is as it was -/
def But (p : Addr) (H H' : Hp) : Prop := ∀ b o, (b ≠ p ∨ Fz o) → H b = some o → H' b = some o
theorem But.refl (p : Addr) (H : Hp) : But p H H := fun _ _ _ h => h
theorem But.trans {p : Addr} {H H1 H2 : Hp} (a : But p H H1) (b : But p H1 H2) : But p H H2 := fun c o n h => b c o n (a c o n h)
theorem But.rd {p : Addr} {H H' : Hp} {a : Addr} {o : HO} (S : But p H H') (n : a ≠ p) (h : H a = some o) : H' a = some o := S a o (.inl n) h
theorem But.of {p : Addr} {H H' : Hp} (S : Same H H') : But p H H' := fun b o _ h => S b o h
theorem But.up {p : Addr} {H H' : Hp} {o u : HO} (S : But p H H') (hp : H' p = some u) (nf : ¬ Fz u) : But p H (L2.upd H' p o) := fun b v n h => by
  have h' := S b v n h
  by_cases e : b = p
  · subst e
    rw [hp] at h'
    cases h'
    rcases n with n | n
    · exact absurd rfl n
    · exact absurd n nf
  · rw [upd_ne e]; exact h'
theorem But.new {p q : Addr} {H H' : Hp} {o : HO} (S : But p H H') (hq : H' q = none) : But p H (L2.upd H' q o) := fun b u n h => by rw [upd_ne (ne_of_none (S b u n h) hq)]; exact S b u n h
theorem But.none {p b : Addr} {H H' : Hp} (S : But p H H') (n : b ≠ p) (h : H' b = Option.none) : H b = Option.none := by
  cases e : H b with
  | none => rfl
  | some o => rw [S b o (.inl n) e] at h; cases h
theorem But.sqL {K : PySem.W.Frag} {p : Addr} {H H' : Hp} {a : Addr} {xs : List V} (S : But p H H') (n : a ≠ p) (h : SqL K H a xs) : SqL K H' a xs := by
  rcases h with (h | ⟨o, h⟩) | h
  · exact .inl (.inl (S _ _ (.inl n) h))
  · exact .inl (.inr ⟨o, S _ _ (.inl n) h⟩)
  · exact .inr h
theorem But.sqT {K : PySem.W.Frag} {p : Addr} {H H' : Hp} {a : Addr} {xs : List V} (S : But p H H') (n : a ≠ p) (h : SqT K H a xs) : SqT K H' a xs := by
  rcases h with (h | ⟨o, h⟩) | h
  · exact .inl (.inl (S _ _ (.inl n) h))
  · exact .inl (.inr ⟨o, S _ _ (.inl n) h⟩)
  · exact .inr h
theorem same_sqT {K : PySem.W.Frag} {H H' : Hp} {a : Addr} {xs : List V} (S : Same H H') (h : SqT K H a xs) : SqT K H' a xs := by
  rcases h with (h | ⟨o, h⟩) | h
  · exact .inl (.inl (S _ _ h))
  · exact .inl (.inr ⟨o, S _ _ h⟩)
  · exact .inr h
/-- the law's script: locked, or of the written part -/
def Scr (K : PySem.W.Frag) (H : Hp) (a : Addr) (ns : List Int) : Prop := (∃ o, H a = some (.frz o (.lst (ns.map V.int)))) ∨
  ∃ (o : Obj) (its : Array Value) (n : Nat), K.lookup a = some o ∧ o.cls = .type "list" ∧ o.dict = none ∧ o.data = .seq its n ∧ its.size ≤ sizeLine ∧ Vals (ns.map V.int) its.toList
theorem Scr.of {K : PySem.W.Frag} {H : Hp} {a : Addr} {ns : List Int} (h0 : Only H) (h : SqL K H a (ns.map V.int)) : Scr K H a ns := by
  rcases h with (h | ⟨o, h⟩) | h
  · rcases h0 a with e | ⟨o, xs, e⟩
    · rw [h] at e; cases e
    · rw [h] at e; cases e
  · exact .inl ⟨o, h⟩
  · exact .inr h
theorem Scr.sq {K : PySem.W.Frag} {H : Hp} {a : Addr} {ns : List Int} (h : Scr K H a ns) : SqL K H a (ns.map V.int) := by
  rcases h with ⟨o, h⟩ | h
  · exact .inl (.inr ⟨o, h⟩)
  · exact .inr h
theorem Scr.but {K : PySem.W.Frag} {H H' : Hp} {p a : Addr} {ns : List Int} (S : But p H H') (h : Scr K H a ns) : Scr K H' a ns := by
  rcases h with ⟨o, h⟩ | h
  · exact .inl ⟨o, S _ _ (.inr trivial) h⟩
  · exact .inr h
theorem Scr.same {K : PySem.W.Frag} {H H' : Hp} {a : Addr} {ns : List Int} (S : Same H H') (h : Scr K H a ns) : Scr K H' a ns := by
  rcases h with ⟨o, h⟩ | h
  · exact .inl ⟨o, S _ _ h⟩
  · exact .inr h
/-- a change of what stands at p, the heap behind it by a name -/
theorem up_but {H : Hp} {p : Addr} {o u : HO} (h : H p = some u) (nf : ¬ Fz u) : But p H (L2.upd H p o) := (But.refl p H).up h nf
theorem c_setL {N1 : Hp → Prop} (n : Nat) (ys : List V) (h1 : H p = some (.lst xs)) (h2 : ixN xs.length i = some n) (h3 : xs.set n v = ys) (h : ∀ H', But p H H' → H' p = some (.lst ys) → N1 H') : rSetL (.ref p) (.int i) v H N1 :=
  s_setL h1 h2 (h _ (up_but h1 (fun z => z)) (by rw [h3]; exact upd_same))
theorem c_acc {D : Addr} {acc : List V} {P : Hp → Prop} (h1 : H D = some (.lst acc)) (h2 : acc.length < sizeLine) (h : ∀ H', But D H H' → H' D = some (.lst (acc ++ [y])) → P H') : zAcc D y H P :=
  s_acc h1 h2 (h _ (up_but h1 (fun z => z)) upd_same)
theorem c_fld {C dx : Addr} {fs gs : List (Str × V)} {f : Str} {N1 : Hp → Prop} (h1 : H p = some (.ins C dx fs)) (hc : Cls K C) (hn : NoAttr K C f) (hl : fs.length < 1000) (h3 : putF f y fs = gs) (h : ∀ H', But p H H' → H' p = some (.ins C dx gs) → N1 H') : zPutF K (.ref p) f y H N1 :=
  s_zputF h1 hc hn hl (h _ (up_but h1 (fun z => z)) (by rw [h3]; exact upd_same))
theorem passC {X : Cx} (σ : L2.St) : PassesAt (L2.CX X.prog X.w) X σ (WE (fun _ _ _ _ => False) σ) := fun pins H s e s' I c => passL pins σ H s e s' I c
theorem c_append (h1 : H p = some (.lst xs)) (h2 : xs.length < sizeLine) (h : ∀ H', But p H H' → H' p = some (.lst (xs ++ [v])) → Q .non H') : rAppend (.ref p) [v] H Q :=
  s_append h1 h2 (h _ (up_but h1 (fun z => z)) upd_same)
/-- a change of what wasn't there at first -/
theorem But.own {p l : Addr} {H H1 H2 : Hp} (a : But p H H1) (b : But l H1 H2) (hl : H l = Option.none) : But p H H2 := fun c o n h => b c o (.inl (ne_of_none h hl)) (a c o n h)
theorem same_own {l : Addr} {H H1 H2 : Hp} (a : Same H H1) (b : But l H1 H2) (hl : H l = Option.none) : Same H H2 := fun c o h => b c o (.inl (ne_of_none h hl)) (a c o h)
/-- tuples stay -/
def TupS (H H' : Hp) : Prop := ∀ b ys, H b = some (.tup ys) → H' b = some (.tup ys)
theorem TupS.refl (H : Hp) : TupS H H := fun _ _ h => h
theorem TupS.trans {H H1 H2 : Hp} (a : TupS H H1) (b : TupS H1 H2) : TupS H H2 := fun c o h => b c o (a c o h)
theorem TupS.new {q : Addr} {H : Hp} {o : HO} (hq : H q = none) : TupS H (L2.upd H q o) := fun b ys h => same_new hq b _ h
theorem TupS.of {H H' : Hp} (S : Same H H') : TupS H H' := fun b _ h => S b _ h
theorem TupS.but {p : Addr} {H H' : Hp} {o : HO} (S : But p H H') (hp : H p = some o) (n : ∀ ys, o ≠ .tup ys) : TupS H H' := fun b ys h => S b _ (.inl fun e => by
  subst e
  rw [hp] at h
  exact n ys (Option.some.inj h)) h
theorem TupS.butN {p : Addr} {H H' : Hp} (S : But p H H') (hp : H p = none) : TupS H H' := fun b ys h => S b _ (.inl fun e => by
  subst e
  rw [hp] at h
  cases h) h
/-- an item of a list of ints, at an open place within -/
theorem at_ints (ns : List Int) {i : Int} (h0 : 0 ≤ i) (h1 : i < ns.length) : ∃ w, w ∈ ns ∧ atI (ns.map V.int) i = some (.int w) := by
  refine ⟨ns[i.toNat]'(by omega), List.getElem_mem _, ?_⟩
  exact at_of (j := i.toNat) (by omega) (by rw [List.getElem?_map, List.getElem?_eq_getElem (by omega)]; rfl)
theorem putK_len {kvs : List (Key × V)} {k : Key} {v w : V} (h : valV kvs k = some w) : (putK kvs k v).length = kvs.length := by
  unfold putK
  rw [valV_any, h]
  simp
theorem valV_put_ne {kvs : List (Key × V)} {k j : Key} {v : V} (h : ¬ j = k) : valV (putK kvs k v) j = valV kvs j := by rw [valV_put, if_neg h]
theorem valV_put_eq {kvs : List (Key × V)} {k : Key} {v : V} : valV (putK kvs k v) k = some v := by rw [valV_put, if_pos rfl]
theorem c_dput_s {z : Str} {kvs : List (Key × V)} {N1 : Hp → Prop} (h1 : H p = some (.dK kvs)) (h2 : kvs.length < sizeLine) (h : ∀ H', But p H H' → H' p = some (.dK (putK kvs (Sum.inr z : Key) v)) → N1 H') : zDPut (.ref p) (.str z) v H N1 :=
  s_zDPut_s h1 h2 (h _ (up_but h1 (fun z => z)) upd_same)
theorem fdiv_abs (a b : Int) : (a.fdiv b).natAbs ≤ a.natAbs + 1 := Nat.le_succ_of_le (Int.natAbs_fdiv_le_natAbs a b)
/-! ### data: laid at most so deep -/
structure Sh (n : Nat) (d : PyData) : Prop where
  c : d.canLay0 = true
  d : d.depth ≤ n
theorem Sh.shaped {n : Nat} {d : PyData} (h : Sh n d) (hn : n ≤ 64) : SeqAt.shaped d = true := by
  unfold SeqAt.shaped
  rw [h.c, decide_eq_true (Nat.le_trans h.d hn)]
  rfl
theorem Sh.mono {n m : Nat} {d : PyData} (h : Sh n d) (hn : n ≤ m) : Sh m d := ⟨h.c, Nat.le_trans h.d hn⟩
theorem Sh.int {n : Nat} (i : Int) : Sh n (.int i) := ⟨rfl, Nat.zero_le _⟩
theorem Sh.non {n : Nat} : Sh n .none := ⟨rfl, Nat.zero_le _⟩
theorem Sh.bl {n : Nat} (b : Bool) : Sh n (.bool b) := ⟨rfl, Nat.zero_le _⟩
theorem Sh.str {n : Nat} {x : Str} (h : PyData.strOk x = true) : Sh n (.str x) := ⟨h, Nat.zero_le _⟩
theorem sh_all {n : Nat} : ∀ {ds : List PyData}, (∀ d ∈ ds, Sh n d) → PyData.canLayAll0 ds = true ∧ PyData.depthAll ds ≤ n
  | [], _ => ⟨rfl, Nat.zero_le _⟩
  | d :: ds, h => by
    have a := h d List.mem_cons_self
    have b := sh_all (ds := ds) fun e he => h e (List.mem_cons_of_mem _ he)
    refine ⟨?_, ?_⟩
    · show (d.canLay0 && PyData.canLayAll0 ds) = true
      rw [a.c, b.1]; rfl
    · show max d.depth (PyData.depthAll ds) ≤ n
      exact Nat.max_le.mpr ⟨a.d, b.2⟩
theorem Sh.list {n : Nat} {ds : List PyData} (h : ∀ d ∈ ds, Sh n d) : Sh (n + 1) (.list ds) := by
  have a := sh_all h
  refine ⟨?_, ?_⟩
  · show PyData.canLayAll0 ds = true
    exact a.1
  · show PyData.depthAll ds + 1 ≤ n + 1
    exact Nat.succ_le_succ a.2
theorem Sh.tup {n : Nat} {ds : List PyData} (h : ∀ d ∈ ds, Sh n d) : Sh (n + 1) (.tuple ds) := by
  have a := sh_all h
  refine ⟨?_, ?_⟩
  · show PyData.canLayAll0 ds = true
    exact a.1
  · show PyData.depthAll ds + 1 ≤ n + 1
    exact Nat.succ_le_succ a.2
theorem Sh.refl {n : Nat} {d : PyData} (h : Sh n d) : PyData.eqv d d = true := SeqAt.eqv_refl d h.c
theorem dp_ints {K : PySem.W.Frag} {H : Hp} : ∀ ns : List Int, DpAll K H (ns.map V.int) (ns.map PyData.int)
  | [] => .nil
  | _ :: ns => .cons (.int _) (dp_ints ns)
theorem sh_ints {n : Nat} (ns : List Int) : ∀ d ∈ ns.map PyData.int, Sh n d := fun d h => by
  obtain ⟨i, _, rfl⟩ := List.mem_map.mp h
  exact Sh.int i
/-- a promise that asks what never holds -/
theorem fn_none {P : Program} {w : World} {K : PySem.W.Frag} {mg : Str → Option Value} {base : Heap} {CX : CXT} {k : Nat} {f : Addr} {fd : FuncData} {ps : List Str} {sp : Sp} (h : ∀ vs H Q E, ¬ sp vs H Q E) : FnOk P w K mg base CX k f fd ps sp :=
  ⟨fun vs H Q E z => absurd z (h vs H Q E), fun A outer s H args us vs Q E _ _ _ _ z => absurd z (h vs H Q E)⟩
/-! ### specs by the number of arguments -/
def Sp0 (f : Hp → VK → XK → Prop) : Sp := fun vs H Q E => vs = [] ∧ f H Q E
def Sp1 (f : V → Hp → VK → XK → Prop) : Sp := fun vs H Q E => ∃ a, vs = [a] ∧ f a H Q E
def Sp2 (f : V → V → Hp → VK → XK → Prop) : Sp := fun vs H Q E => ∃ a b, vs = [a, b] ∧ f a b H Q E
def Sp3 (f : V → V → V → Hp → VK → XK → Prop) : Sp := fun vs H Q E => ∃ a b c, vs = [a, b, c] ∧ f a b c H Q E
def Sp4 (f : V → V → V → V → Hp → VK → XK → Prop) : Sp := fun vs H Q E => ∃ a b c d, vs = [a, b, c, d] ∧ f a b c d H Q E
def Sp5 (f : V → V → V → V → V → Hp → VK → XK → Prop) : Sp := fun vs H Q E => ∃ a b c d e, vs = [a, b, c, d, e] ∧ f a b c d e H Q E
end
end Z
/-! ### the steps, tried in turn -/
local macro_rules | `(tactic| walk_at "hp") => `(tactic| first
  | with_reducible assumption
  | with_reducible exact upd_same
  | ((with_reducible refine' Z.up_new ?zn ?zq); (case zn => with_reducible assumption); case zq => walk_at "hp")
  | ((with_reducible refine' Z.up_far ?zn ?zq); (case zn => walk_at "ne"); case zq => walk_at "hp")
  | ((with_reducible refine' Z.sm_rd ?zn ?zq); (case zn => with_reducible assumption); case zq => walk_at "hp")
  | ((with_reducible refine' Z.But.rd ?zn ?zm ?zq); (case zn => with_reducible assumption); (case zm => walk_at "ne"); case zq => walk_at "hp"))
local macro_rules | `(tactic| walk_at "ne") => `(tactic| first
  | with_reducible assumption
  | ((with_reducible refine' Ne.symm ?_); with_reducible assumption)
  | ((with_reducible refine' L2.ne_of_none ?zn ?zm); (case zn => with_reducible assumption); case zm => with_reducible assumption)
  | ((with_reducible refine' Ne.symm (L2.ne_of_none ?zn ?zm)); (case zn => with_reducible assumption); case zm => with_reducible assumption))
local macro_rules | `(tactic| walk_at "sq") => `(tactic| first
  | with_reducible assumption
  | ((with_reducible refine' L2.SqL.of ?zq); case zq => walk_at "hp")
  | ((with_reducible refine' L2.SqT.of ?zq); case zq => walk_at "hp")
  | ((with_reducible refine' L2.Same.seq ?zn ?zq); (case zn => with_reducible assumption); case zq => walk_at "sq")
  | ((with_reducible refine' Z.same_sqT ?zn ?zq); (case zn => with_reducible assumption); case zq => walk_at "sq")
  | ((with_reducible refine' Z.But.sqL ?zn ?zm ?zq); (case zn => with_reducible assumption); (case zm => walk_at "ne"); case zq => walk_at "sq")
  | ((with_reducible refine' Z.But.sqT ?zn ?zm ?zq); (case zn => with_reducible assumption); (case zm => walk_at "ne"); case zq => walk_at "sq"))
local macro_rules | `(tactic| walk_at "fit") => `(tactic| first
  | (refine Nat.le_of_ble_eq_true ?_; rfl) | omega)
local macro_rules | `(tactic| walk_at "s") => `(tactic| first
  | with_reducible refine Z.s_seq ?_
  | with_reducible refine Z.s_set ?_
  | ((with_reducible refine' Z.s_var ?zh ?_); case zh => exact rfl)
  | with_reducible refine Z.s_c ?_
  | with_reducible refine Z.s_op ?_
  | with_reducible refine Z.s_cons ?_
  | with_reducible refine Z.s_nil ?_
  | with_reducible refine Z.s_cb ?_
  | with_reducible refine Z.s_callS ?_
  | with_reducible refine Z.s_rI0 ?_
  | with_reducible refine Z.s_add_i ?_
  | with_reducible refine Z.s_test ?_
  | with_reducible refine Z.s_zB ?_
  | with_reducible refine Z.s_if ?_
  | with_reducible refine Z.s_ret ?_
  | with_reducible refine Z.s_next ?_
  | with_reducible refine Z.s_drop ?_
  | with_reducible refine Z.s_eq_i ?_
  | with_reducible refine Z.s_ne_i ?_
  | with_reducible refine Z.s_eq_s ?_
  | with_reducible refine Z.s_ne_s ?_
  | with_reducible refine Z.s_and ?_
  | with_reducible refine Z.s_or ?_
  | with_reducible refine Z.s_not ?_
  | with_reducible refine Z.s_chain ?_
  | with_reducible refine Z.s_B ?_
  | with_reducible refine Z.s_tup ?_
  | with_reducible refine Z.s_lst ?_
  | ((with_reducible refine' Z.s_ztup ?zh ?_); case zh => exact rfl)
  | ((with_reducible refine' Z.s_zlst ?zh ?_); case zh => exact rfl)
  | with_reducible refine Z.s_un ?_
  | with_reducible refine Z.s_rU ?_
  | with_reducible refine Z.s_p18 ?_
  | with_reducible refine Z.s_min2 ?_
  | with_reducible refine Z.s_max2 ?_
  | with_reducible refine Z.s_abs ?_
  | with_reducible refine Z.s_int1 ?_
  | with_reducible refine Z.s_int1b ?_
  | with_reducible refine Z.s_bm ?_
  | with_reducible refine Z.s_bm0 ?_
  | with_reducible refine Z.s_fld ?_
  | with_reducible refine Z.s_dget ?_
  | with_reducible refine Z.s_din ?_
  | with_reducible refine Z.s_dnotin ?_
  | with_reducible refine Z.s_dnew ?_
  | with_reducible refine Z.s_dput ?_
  | with_reducible refine Z.s_disp ?_
  | with_reducible refine Z.s_asg ?_
  | with_reducible refine Z.s_gname ?_
  | with_reducible refine Z.s_gsub ?_
  | with_reducible refine Z.s_gcons ?_
  | with_reducible refine Z.s_gnil ?_
  | with_reducible refine Z.s_for ?_
  | with_reducible refine Z.s_rng1 ?_
  | with_reducible refine Z.s_rng2 ?_
  | with_reducible refine Z.s_itl ?_
  | with_reducible refine Z.s_itt ?_
  | with_reducible refine Z.s_isN_i ?_
  | with_reducible refine Z.s_isN_r ?_
  | with_reducible refine Z.s_isN_s ?_
  | with_reducible refine Z.s_isN_n ?_
  | with_reducible refine Z.s_notN_i ?_
  | with_reducible refine Z.s_notN_r ?_
  | with_reducible refine Z.s_notN_s ?_
  | with_reducible refine Z.s_notN_n ?_
  | with_reducible refine Z.s_slL ?_
  | with_reducible refine Z.s_nopart ?_
  | with_reducible refine Z.s_part ?_
  | with_reducible refine Z.s_zpart ?_
  | ((with_reducible refine' Z.s_cutL ?zh ?_); case zh => walk_at "sq")
  | with_reducible refine Z.s_ift ?_
  | with_reducible refine Z.s_iff ?_
  | with_reducible refine Z.s_nt ?_
  | with_reducible refine Z.s_nf ?_
  | with_reducible refine Z.s_zbody ?_
  | with_reducible refine Z.s_lc ?_
  | with_reducible refine Z.s_yes ?_
  | ((with_reducible refine Z.s_wipe ?zh ?_); case zh => rfl)
  | ((with_reducible refine' Z.s_zitl ?zh ?_); case zh => walk_at "sq")
  | ((with_reducible refine' Z.s_zitt ?zh ?_); case zh => walk_at "sq")
  | with_reducible refine Z.s_ifE ?_
  | with_reducible refine Z.s_andV ?_
  | with_reducible refine Z.s_orV ?_
  | with_reducible refine Z.s_notV ?_
  | with_reducible refine Z.s_retN ?_
  | with_reducible refine Z.s_break ?_
  | with_reducible refine Z.s_cont ?_
  | ((with_reducible refine Z.s_zrng1 ?zh ?_); case zh => omega)
  | ((with_reducible refine Z.s_zrng2 ?zh ?_); case zh => omega)
  | ((with_reducible refine Z.s_modp ?zh ?_); case zh => omega)
  | ((with_reducible refine Z.s_fdvp ?zh ?_); case zh => omega)
  | ((with_reducible refine Z.s_mulp ?zh ?_); case zh => omega)
  | ((with_reducible refine' Z.s_len_l ?zh ?_); case zh => walk_at "sq")
  | ((with_reducible refine' Z.s_len_t ?zh ?_); case zh => walk_at "sq")
  | ((with_reducible refine' Z.s_zTyL ?zh ?_); case zh => walk_at "hp")
  | with_reducible refine Z.s_meth ?_
  | with_reducible refine Z.s_make ?_
  | with_reducible refine Z.s_fldset ?_
  | with_reducible refine Z.s_zTyS ?_
  | ((with_reducible refine' Z.s_zTyL' ?zh ?_); case zh => walk_at "sq")
  | ((with_reducible refine' Z.s_listof_l ?zh ?_); case zh => walk_at "sq")
  | ((with_reducible refine' Z.s_listof_t ?zh ?_); case zh => walk_at "sq")
  | ((with_reducible refine' Z.s_tupof_l ?zh ?_); case zh => walk_at "sq")
  | ((with_reducible refine' Z.s_tupof_t ?zh ?_); case zh => walk_at "sq")
  | ((with_reducible refine' Z.s_gun_t ?zh ?zl ?_); (case zh => walk_at "sq"); case zl => rfl)
  | ((with_reducible refine' Z.s_gun_l ?zh ?zl ?_); (case zh => walk_at "sq"); case zl => rfl))
local macro_rules | `(tactic| walk_at "zz") => `(tactic| repeat (walk_at "s"))
namespace My
open PySem L2 Z

def top (i : Nat) : Stmt := PySem.Challenge.pw_ownchain_k01_words_of_kinds.main.body.getD i (.Pass ⟨0, 0, 0, 0⟩)
abbrev st_word_of : Stmt := top 8
abbrev nm_word_of : List Str := ["kind"]
abbrev st_kind_of : Stmt := top 9
abbrev nm_kind_of : List Str := ["word", "kind"]
abbrev st_parts_of : Stmt := top 10
abbrev nm_parts_of : List Str := ["kind"]
abbrev st_Lmixed : Stmt := top 12
abbrev nm_Lmixed : List Str := ["_law_cell", "_law_k", "_law_one", "_law_two"]
abbrev st_Ltake : Stmt := top 13
abbrev nm_Ltake : List Str := ["_law_state", "_law_many", "_law_script", "_law_k", "_law_cell", "_law_found"]
abbrev st_Lwords : Stmt := top 14
abbrev nm_Lwords : List Str := ["_law_some"]
abbrev st_Ltext : Stmt := top 15
abbrev nm_Ltext : List Str := ["_law_state", "_law_signs", "_law_text_here", "_law_at", "_law_sign", "_law_way", ".0", "_law_k"]
abbrev st_Lis : Stmt := top 16
abbrev nm_Lis : List Str := ["_law_found", "_law_due"]
abbrev st_law : Stmt := top 17
abbrev nm_law : List Str := ["_law_script", "_law_state", "_law_words_here", "_law_k", "_law_found", "_law_many", "_law_turn", "_law_text_here", ".0"]
/-- where the top's things stand -/
structure Adr where
  K : PySem.W.Frag
  mg : Str → Option Value
  t_SET : Tok
  t_FAIL : Tok
  t_PUT : Tok
  t_SIZE : Tok
  t_NEW : Tok
  a_EARLY : Addr
  a_LATE : Addr
  f_word_of : Addr
  d_word_of : FuncData
  f_kind_of : Addr
  d_kind_of : FuncData
  f_parts_of : Addr
  d_parts_of : FuncData
  f_Lmixed : Addr
  d_Lmixed : FuncData
  f_Ltake : Addr
  d_Ltake : FuncData
  f_Lwords : Addr
  d_Lwords : FuncData
  f_Ltext : Addr
  d_Ltext : FuncData
  f_Lis : Addr
  d_Lis : FuncData
  f_law : Addr
  d_law : FuncData
/-- what is known of them -/
structure Top (Z : Adr) : Prop where
  g_SET : Z.mg "SET" = some (.int 2 Z.t_SET)
  g_FAIL : Z.mg "FAIL" = some (.int 7 Z.t_FAIL)
  g_PUT : Z.mg "PUT" = some (.int 17 Z.t_PUT)
  g_SIZE : Z.mg "SIZE" = some (.int 18 Z.t_SIZE)
  g_NEW : Z.mg "NEW" = some (.int 19 Z.t_NEW)
  g_EARLY : Z.mg "EARLY" = some (.ref Z.a_EARLY)
  s_EARLY : ∀ H, SqT Z.K H Z.a_EARLY ([("set" : Str), ("all" : Str), ("pick" : Str), ("loop" : Str), ("call" : Str), ("fail" : Str), ("add" : Str), ("sub" : Str), ("mul" : Str)].map V.str)
  g_LATE : Z.mg "LATE" = some (.ref Z.a_LATE)
  s_LATE : ∀ H, SqT Z.K H Z.a_LATE ([("quo" : Str), ("rest" : Str), ("less" : Str), ("same" : Str), ("push" : Str), ("at" : Str), ("put" : Str), ("size" : Str), ("new" : Str)].map V.str)
  n_abs : Z.mg "abs" = none
  n_bool : Z.mg "bool" = none
  n_int : Z.mg "int" = none
  n_isinstance : Z.mg "isinstance" = none
  n_len : Z.mg "len" = none
  n_range : Z.mg "range" = none
  n_str : Z.mg "str" = none
  F_word_of : Fun Z.K "word_of" "word_of" st_word_of Z.f_word_of Z.d_word_of
  m_word_of : Z.mg "word_of" = some (.ref Z.f_word_of)
  b_word_of : Binds Z.K Z.d_word_of ["kind"] []
  F_kind_of : Fun Z.K "kind_of" "kind_of" st_kind_of Z.f_kind_of Z.d_kind_of
  m_kind_of : Z.mg "kind_of" = some (.ref Z.f_kind_of)
  b_kind_of : Binds Z.K Z.d_kind_of ["word"] []
  F_parts_of : Fun Z.K "parts_of" "parts_of" st_parts_of Z.f_parts_of Z.d_parts_of
  m_parts_of : Z.mg "parts_of" = some (.ref Z.f_parts_of)
  b_parts_of : Binds Z.K Z.d_parts_of ["kind"] []
  F_Lmixed : Fun Z.K "_law_mixed" "_law_mixed" st_Lmixed Z.f_Lmixed Z.d_Lmixed
  m_Lmixed : Z.mg "_law_mixed" = some (.ref Z.f_Lmixed)
  b_Lmixed : Binds Z.K Z.d_Lmixed ["_law_cell", "_law_k"] []
  F_Ltake : Fun Z.K "_law_take" "_law_take" st_Ltake Z.f_Ltake Z.d_Ltake
  m_Ltake : Z.mg "_law_take" = some (.ref Z.f_Ltake)
  b_Ltake : Binds Z.K Z.d_Ltake ["_law_state", "_law_many"] []
  F_Lwords : Fun Z.K "_law_words" "_law_words" st_Lwords Z.f_Lwords Z.d_Lwords
  m_Lwords : Z.mg "_law_words" = some (.ref Z.f_Lwords)
  b_Lwords : Binds Z.K Z.d_Lwords [] []
  F_Ltext : Fun Z.K "_law_text" "_law_text" st_Ltext Z.f_Ltext Z.d_Ltext
  m_Ltext : Z.mg "_law_text" = some (.ref Z.f_Ltext)
  b_Ltext : Binds Z.K Z.d_Ltext ["_law_state"] []
  F_Lis : Fun Z.K "_law_is" "_law_is" st_Lis Z.f_Lis Z.d_Lis
  m_Lis : Z.mg "_law_is" = some (.ref Z.f_Lis)
  b_Lis : Binds Z.K Z.d_Lis ["_law_found", "_law_due"] []
  F_law : Fun Z.K "law" "law" st_law Z.f_law Z.d_law
  m_law : Z.mg "law" = some (.ref Z.f_law)
  b_law : Binds Z.K Z.d_law ["_law_script"] []
theorem Top.k_all {Z : Adr} (_ : Top Z) : True := trivial
theorem Top.k_word_of {Z : Adr} (T : Top Z) : PySem.W.keepIn Z.K (.ref Z.f_word_of) = true := T.F_word_of.kp
theorem Top.k_kind_of {Z : Adr} (T : Top Z) : PySem.W.keepIn Z.K (.ref Z.f_kind_of) = true := T.F_kind_of.kp
theorem Top.k_parts_of {Z : Adr} (T : Top Z) : PySem.W.keepIn Z.K (.ref Z.f_parts_of) = true := T.F_parts_of.kp
theorem Top.k_Lmixed {Z : Adr} (T : Top Z) : PySem.W.keepIn Z.K (.ref Z.f_Lmixed) = true := T.F_Lmixed.kp
theorem Top.k_Ltake {Z : Adr} (T : Top Z) : PySem.W.keepIn Z.K (.ref Z.f_Ltake) = true := T.F_Ltake.kp
theorem Top.k_Lwords {Z : Adr} (T : Top Z) : PySem.W.keepIn Z.K (.ref Z.f_Lwords) = true := T.F_Lwords.kp
theorem Top.k_Ltext {Z : Adr} (T : Top Z) : PySem.W.keepIn Z.K (.ref Z.f_Ltext) = true := T.F_Ltext.kp
theorem Top.k_Lis {Z : Adr} (T : Top Z) : PySem.W.keepIn Z.K (.ref Z.f_Lis) = true := T.F_Lis.kp
theorem Top.k_law {Z : Adr} (T : Top Z) : PySem.W.keepIn Z.K (.ref Z.f_law) = true := T.F_law.kp
/-! ### a generator whose state is a list: script, at, left -/
def St3 (K : PySem.W.Frag) (H : Hp) (p : Addr) : Prop := ∃ (sa : Addr) (ns : List Int) (k l : Int), Scr K H sa ns ∧ 0 ≤ k ∧ 0 ≤ l ∧ H p = some (.lst [.ref sa, .int k, .int l])
theorem St3.ne {K : PySem.W.Frag} {H : Hp} {p q : Addr} (h : St3 K H p) (hq : H q = none) : q ≠ p := by
  obtain ⟨sa, ns, k, l, hS, hk, hl, hp⟩ := h
  exact (ne_of_none hp hq).symm
theorem St3.but {K : PySem.W.Frag} {H H' : Hp} {p q : Addr} (h : St3 K H p) (B : But q H H') (n : p ≠ q) : St3 K H' p := by
  obtain ⟨sa, ns, k, l, hS, hk, hl, hp⟩ := h
  exact ⟨sa, ns, k, l, hS.but B, hk, hl, B _ _ (.inl n) hp⟩
theorem St3.same {K : PySem.W.Frag} {H H' : Hp} {p : Addr} (h : St3 K H p) (S : Same H H') : St3 K H' p := by
  obtain ⟨sa, ns, k, l, hS, hk, hl, hp⟩ := h
  exact ⟨sa, ns, k, l, hS.same S, hk, hl, S _ _ hp⟩
theorem St3.new {K : PySem.W.Frag} {H : Hp} {p q : Addr} {o : HO} (h : St3 K H p) (hq : H q = none) : St3 K (upd H q o) p := h.same (same_new hq)
theorem St3.tups {K : PySem.W.Frag} {H H' : Hp} {p : Addr} (h : St3 K H p) (B : But p H H') : TupS H H' := by
  obtain ⟨sa, ns, k, l, hS, hk, hl, hp⟩ := h
  exact TupS.but B hp fun ys e => by cases e

def WE1 : List Str := ["set", "all", "pick", "loop", "call", "fail", "add", "sub", "mul"]
def WE2 : List Str := ["quo", "rest", "less", "same", "push", "at", "put", "size", "new"]
def WD : List Str := WE1 ++ WE2
theorem WD_len : WD.length = 18 := rfl
def kindF (k : Int) : List Str → Str → V
  | [], _ => .non
  | x :: xs, w => if x = w then .int k else kindF (k + 1) xs w
theorem kindF_spec (w : Str) : ∀ (l : List Str) (k : Int), (w ∉ l ∧ kindF k l w = .non) ∨ ∃ j : Nat, l[j]? = some w ∧ (∀ m, m < j → l[m]? ≠ some w) ∧ kindF k l w = .int (k + j)
  | [], k => .inl ⟨by simp, rfl⟩
  | x :: xs, k => by
    by_cases h : x = w
    · refine .inr ⟨0, by rw [h]; rfl, fun m hm => by omega, ?_⟩
      unfold kindF
      rw [if_pos h]
      simp
    · rcases kindF_spec w xs (k + 1) with ⟨a, b⟩ | ⟨j, a, b, c⟩
      · refine .inl ⟨by simp [a, Ne.symm h], ?_⟩
        unfold kindF
        rw [if_neg h]
        exact b
      · refine .inr ⟨j + 1, by simpa using a, fun m hm => ?_, ?_⟩
        · cases m with
          | zero => simpa using h
          | succ m => simpa using b m (by omega)
        · unfold kindF
          rw [if_neg h, c]
          congr 1
          omega
def q_word_of (Z : Adr) (a : V) (H : Hp) (Q : VK) (E : XK) : Prop := ∃ (i : Nat) (w : Str), a = .int (2 + i) ∧ WD[i]? = some w ∧ ∀ H', Same H H' → Q (.str w) H'
def q_kind_of (Z : Adr) (a : V) (H : Hp) (Q : VK) (E : XK) : Prop := ∃ w, a = .str w ∧ ∀ H', Same H H' → Q (kindF 2 WD w) H'
def manyP (i : Int) : Int := if i = 19 then 0 else if i = 7 ∨ i = 18 then 1 else if i = 17 then 3 else 2
def q_parts_of (Z : Adr) (a : V) (H : Hp) (Q : VK) (E : XK) : Prop := ∃ i : Int, a = .int i ∧ ∀ H', Same H H' → Q (.int (manyP i)) H'
def q_Lmixed (Z : Adr) (a b : V) (H : Hp) (Q : VK) (E : XK) : Prop := ∃ c k, a = .int c ∧ b = .int k ∧ ∀ z, Q (.int z) H
def q_Ltake (Z : Adr) (a b : V) (H : Hp) (Q : VK) (E : XK) : Prop := ∃ p m, a = .ref p ∧ b = .int m ∧ 0 < m ∧ m < 1000000 ∧ St3 Z.K H p ∧ ∀ v H', 0 ≤ v → v < m → St3 Z.K H' p → But p H H' → Q (.int v) H'
def q_Lwords (Z : Adr) (H : Hp) (Q : VK) (E : XK) : Prop := ∀ l H', Same H H' → H l = none → H' l = some (.lst (WD.map V.str)) → Q (.ref l) H'
def q_Ltext (Z : Adr) (a : V) (H : Hp) (Q : VK) (E : XK) : Prop := ∃ p, a = .ref p ∧ St3 Z.K H p ∧ ∀ w H', St3 Z.K H' p → But p H H' → Q (.str w) H'
def q_Lis (Z : Adr) (a b : V) (H : Hp) (Q : VK) (E : XK) : Prop := ∃ i : Int, a = .int i ∧ b = .int i ∧ Q (.bl true) H
def q_law (Z : Adr) (v : V) (H : Hp) (Q : VK) (E : XK) : Prop := ∃ (a : Addr) (ns : List Int), v = .ref a ∧ Only H ∧ Scr Z.K H a ns ∧ ns.length ≤ 63 ∧ ∀ H', Q (.bl true) H'

def sp_word_of (Z : Adr) : Sp := Sp1 (q_word_of Z)
theorem cl_word_of {Z : Adr} {a0 : V} {H : Hp} {Q : VK} {E : XK} (h : q_word_of Z a0 H Q E) : sp_word_of Z [a0] H Q E := ⟨a0, rfl, h⟩
def sp_kind_of (Z : Adr) : Sp := Sp1 (q_kind_of Z)
theorem cl_kind_of {Z : Adr} {a0 : V} {H : Hp} {Q : VK} {E : XK} (h : q_kind_of Z a0 H Q E) : sp_kind_of Z [a0] H Q E := ⟨a0, rfl, h⟩
def sp_parts_of (Z : Adr) : Sp := Sp1 (q_parts_of Z)
theorem cl_parts_of {Z : Adr} {a0 : V} {H : Hp} {Q : VK} {E : XK} (h : q_parts_of Z a0 H Q E) : sp_parts_of Z [a0] H Q E := ⟨a0, rfl, h⟩
def sp_Lmixed (Z : Adr) : Sp := Sp2 (q_Lmixed Z)
theorem cl_Lmixed {Z : Adr} {a0 a1 : V} {H : Hp} {Q : VK} {E : XK} (h : q_Lmixed Z a0 a1 H Q E) : sp_Lmixed Z [a0, a1] H Q E := ⟨a0, a1, rfl, h⟩
def sp_Ltake (Z : Adr) : Sp := Sp2 (q_Ltake Z)
theorem cl_Ltake {Z : Adr} {a0 a1 : V} {H : Hp} {Q : VK} {E : XK} (h : q_Ltake Z a0 a1 H Q E) : sp_Ltake Z [a0, a1] H Q E := ⟨a0, a1, rfl, h⟩
def sp_Lwords (Z : Adr) : Sp := Sp0 (q_Lwords Z)
theorem cl_Lwords {Z : Adr} {H : Hp} {Q : VK} {E : XK} (h : q_Lwords Z H Q E) : sp_Lwords Z [] H Q E := ⟨rfl, h⟩
def sp_Ltext (Z : Adr) : Sp := Sp1 (q_Ltext Z)
theorem cl_Ltext {Z : Adr} {a0 : V} {H : Hp} {Q : VK} {E : XK} (h : q_Ltext Z a0 H Q E) : sp_Ltext Z [a0] H Q E := ⟨a0, rfl, h⟩
def sp_Lis (Z : Adr) : Sp := Sp2 (q_Lis Z)
theorem cl_Lis {Z : Adr} {a0 a1 : V} {H : Hp} {Q : VK} {E : XK} (h : q_Lis Z a0 a1 H Q E) : sp_Lis Z [a0, a1] H Q E := ⟨a0, a1, rfl, h⟩
def sp_law (Z : Adr) : Sp := Sp1 (q_law Z)
theorem cl_law {Z : Adr} {a0 : V} {H : Hp} {Q : VK} {E : XK} (h : q_law Z a0 H Q E) : sp_law Z [a0] H Q E := ⟨a0, rfl, h⟩
def t_word_of (Z : Adr) (W : WX) : TS := (tRet (tOp (rIx Z.K) (tOp (rAddU Z.K) (tC (.ref Z.a_EARLY)) (tC (.ref Z.a_LATE))) (tOp (rI0 fun i j => .int (i - j)) (tVar 0) (tC (.int 2)))))
def t_kind_of (Z : Adr) (W : WX) : TS := (tSeq (tFor (iRng2 (tCons (tC (.int 2)) (tCons (tOp (rAddU Z.K) (tC (.int 19)) (tC (.int 1))) tNil))) (gName 1) (tIfS (tTest (tOp (rEqU Z.K) (tCallS (sp_word_of Z) (WE W) (tCons (tVar 1) tNil)) (tVar 0))) (tRet (tVar 1)) tNext))
    (tRet (tC .non)))
def t_parts_of (Z : Adr) (W : WX) : TS := (tSeq (tIfS (tTest (tOp (rEqU Z.K) (tVar 0) (tC (.int 19)))) (tRet (tC (.int 0))) tNext)
    (tSeq (tIfS (tTest (tOp (rIn Z.K false) (tVar 0) (tTup (tCons (tC (.int 7)) (tCons (tC (.int 18)) tNil))))) (tRet (tC (.int 1))) tNext)
    (tSeq (tIfS (tTest (tOp (rEqU Z.K) (tVar 0) (tC (.int 17)))) (tRet (tC (.int 3))) tNext)
    (tRet (tC (.int 2))))))
def t_Lmixed (Z : Adr) (W : WX) : TS := (tSeq (tAsg (tOp rMod (tOp rMul (tOp (rAddU Z.K) (tOp (rAddU Z.K) (tOp rMod (tVar 0) (tC (.int 2147483587))) (tOp rMul (tC (.int 30011)) (tVar 1))) (tC (.int 4711))) (tC (.int 39373))) (tC (.int 2147483647))) (gName 2))
    (tSeq (tAsg (tOp rMod (tOp (rAddU Z.K) (tOp (rAddU Z.K) (tOp rMul (tVar 2) (tVar 2)) (tOp rMul (tC (.int 40014)) (tVar 2))) (tOp rMul (tC (.int 7)) (tVar 1))) (tC (.int 2147483563))) (gName 3))
    (tRet (tOp rFdv (tOp rMod (tOp rMul (tVar 3) (tOp (rAddU Z.K) (tVar 3) (tC (.int 16807)))) (tC (.int 1073741783))) (tC (.int 5))))))
def t_Ltake (Z : Adr) (W : WX) : TS := (C8.tCut (tIfS (tTest (tOp (rEqU Z.K) (tOp (rIx Z.K) (tVar 0) (tC (.int 2))) (tC (.int 0)))) (tSeq (tAsg (tOp (rIx Z.K) (tVar 0) (tC (.int 0))) (gName 2))
    (tSeq (tAsg (tOp (rIx Z.K) (tVar 0) (tC (.int 1))) (gName 3))
    (tSeq (tAsg (tOp (rAddU Z.K) (tVar 3) (tC (.int 1))) (gSub (tVar 0) (tC (.int 1)) rSetL))
    (tSeq (tAsg (tC (.int 0)) (gName 4))
    (C8.tCut (tIfS (tTest (tOp (rI0 fun i j => .bl (decide (i < j))) (tVar 3) (tCB (rLen Z.K) (tCons (tVar 2) tNil)))) (tAsg (tOp (rIx Z.K) (tVar 2) (tVar 3)) (gName 4)) (tIfS (tTest (tOp (rI0 fun i j => .bl (decide (j < i))) (tCB (rLen Z.K) (tCons (tVar 2) tNil)) (tC (.int 0)))) (tAsg (tOp rMod (tOp (rIx Z.K) (tVar 2) (tOp rMod (tVar 3) (tCB (rLen Z.K) (tCons (tVar 2) tNil)))) (tC (.int 100000000000000000))) (gName 4)) tNext))
    (tSeq (tIfS (tTest (tOp (rI0 fun i j => .bl (decide (i < j))) (tCB rAbs (tCons (tVar 4) tNil)) (tC (.int 1000000000000000000)))) (tRet (tOp rMod (tCallS (sp_Lmixed Z) (WE W) (tCons (tVar 4) (tCons (tVar 3) tNil))) (tVar 1))) tNext)
    (tAsg (tCB rAbs (tCons (tVar 4) tNil)) (gSub (tVar 0) (tC (.int 2)) rSetL)))))))) tNext)
    (tSeq (tAsg (tOp rMod (tOp (rIx Z.K) (tVar 0) (tC (.int 2))) (tVar 1)) (gName 5))
    (tSeq (tAsg (tOp rFdv (tOp (rIx Z.K) (tVar 0) (tC (.int 2))) (tVar 1)) (gSub (tVar 0) (tC (.int 2)) rSetL))
    (tRet (tVar 5)))))
def t_Lwords (Z : Adr) (W : WX) : TS := (tSeq (tAsg (tLst (tCons (tC (.str "set")) (tCons (tC (.str "all")) (tCons (tC (.str "pick")) (tCons (tC (.str "loop")) (tCons (tC (.str "call")) (tCons (tC (.str "fail")) (tCons (tC (.str "add")) (tCons (tC (.str "sub")) (tCons (tC (.str "mul")) (tCons (tC (.str "quo")) (tCons (tC (.str "rest")) (tCons (tC (.str "less")) (tCons (tC (.str "same")) (tCons (tC (.str "push")) tNil))))))))))))))) (gName 0))
    (tRet (tOp (rAddU Z.K) (tVar 0) (tLst (tCons (tC (.str "at")) (tCons (tC (.str "put")) (tCons (tC (.str "size")) (tCons (tC (.str "new")) tNil))))))))
def t_Ltext (Z : Adr) (W : WX) : TS := (tSeq (tAsg (tC (.str "abcdefghijklmnopqrstuvwxyzALPSU 0189-_.")) (gName 1))
    (tSeq (tAsg (tOp (rIx Z.K) (tCallS (sp_Lwords Z) (WE W) tNil) (tCallS (sp_Ltake Z) (WE W) (tCons (tVar 0) (tCons (tC (.int 18)) tNil)))) (gName 2))
    (tSeq (tAsg (tCallS (sp_Ltake Z) (WE W) (tCons (tVar 0) (tCons (tOp (rAddU Z.K) (tCB (rLen Z.K) (tCons (tVar 2) tNil)) (tC (.int 1))) tNil))) (gName 3))
    (tSeq (tAsg (tOp (rIx Z.K) (tVar 1) (tCallS (sp_Ltake Z) (WE W) (tCons (tVar 0) (tCons (tCB (rLen Z.K) (tCons (tVar 1) tNil)) tNil)))) (gName 4))
    (tSeq (tAsg (tCallS (sp_Ltake Z) (WE W) (tCons (tVar 0) (tCons (tC (.int 6)) tNil))) (gName 5))
    (tSeq (tIfS (tTest (tOp (rEqU Z.K) (tVar 5) (tC (.int 0)))) (tRet (tOp (rAddU Z.K) (tOp (rAddU Z.K) (tSl rSlS (tVar 2) tNoPart (tPart (tVar 3))) (tVar 4)) (tSl rSlS (tVar 2) (tPart (tVar 3)) tNoPart))) tNext)
    (tSeq (tIfS (tTest (tOp (rEqU Z.K) (tVar 5) (tC (.int 1)))) (tRet (tOp (rAddU Z.K) (tSl rSlS (tVar 2) tNoPart (tPart (tVar 3))) (tSl rSlS (tVar 2) (tPart (tOp (rAddU Z.K) (tVar 3) (tC (.int 1)))) tNoPart))) tNext)
    (tSeq (tIfS (tTest (tOp (rEqU Z.K) (tVar 5) (tC (.int 2)))) (tRet (tOp (rAddU Z.K) (tOp (rAddU Z.K) (tSl rSlS (tVar 2) tNoPart (tPart (tVar 3))) (tVar 4)) (tSl rSlS (tVar 2) (tPart (tOp (rAddU Z.K) (tVar 3) (tC (.int 1)))) tNoPart))) tNext)
    (tSeq (tIfS (tTest (tOp (rEqU Z.K) (tVar 5) (tC (.int 3)))) (tRet (tOp (rIx Z.K) (tLst (tCons (tC (.str "")) (tCons (tC (.str "number")) (tCons (tC (.str "get")) (tCons (tC (.str "if")) (tCons (tC (.str "fun")) (tCons (tC (.str "with")) (tCons (tC (.str "is")) (tCons (tC (.str "0")) (tCons (tC (.str "not")) (tCons (tC (.str "and")) tNil))))))))))) (tCallS (sp_Ltake Z) (WE W) (tCons (tVar 0) (tCons (tC (.int 10)) tNil))))) tNext)
    (tSeq (tIfS (tTest (tOp (rEqU Z.K) (tVar 5) (tC (.int 4)))) (tRet (tBM Z.K "str" (rJoin Z.K) (tC (.str "")) (tCons (tLc (iRng1 (tCons (tCallS (sp_Ltake Z) (WE W) (tCons (tVar 0) (tCons (tC (.int 6)) tNil))) tNil)) (gName 7) tYes (tOp (rIx Z.K) (tVar 1) (tCallS (sp_Ltake Z) (WE fun _ _ _ _ => False) (tCons (tVar 0) (tCons (tC (.int 26)) tNil)))) [6, 7]) tNil))) tNext)
    (tRet (tVar 2))))))))))))
def t_Lis (Z : Adr) (W : WX) : TS := (tRet (tAndV (tCB (rIsi2 Z.K) (tCons (tVar 0) (tCons (tC (.ty "int")) tNil))) (tAndV (tNotV (tCB (rIsi2 Z.K) (tCons (tVar 0) (tCons (tC (.ty "bool")) tNil)))) (tOp (rEqU Z.K) (tVar 0) (tVar 1)))))
def t_law (Z : Adr) (W : WX) : TS := (tSeq (tAsg (tLst (tCons (tVar 0) (tCons (tC (.int 0)) (tCons (tC (.int 0)) tNil)))) (gName 1))
    (tSeq (tAsg (tCallS (sp_Lwords Z) (WE W) tNil) (gName 2))
    (tSeq (tFor (iRng1 (tCons (tC (.int 18)) tNil)) (gName 3) (tSeq (tAsg (tCallS (sp_word_of Z) (WE W) (tCons (tOp (rAddU Z.K) (tC (.int 2)) (tVar 3)) tNil)) (gName 4))
    (tIfS (tOr (tNot (tB (tCB (rIsi2 Z.K) (tCons (tVar 4) (tCons (tC (.ty "str")) tNil))))) (tOr (tTest (tOp (rNeU Z.K) (tVar 4) (tOp (rIx Z.K) (tVar 2) (tVar 3)))) (tNot (tB (tCallS (sp_Lis Z) (WE W) (tCons (tCallS (sp_kind_of Z) (WE W) (tCons (tOp (rIx Z.K) (tVar 2) (tVar 3)) tNil)) (tCons (tOp (rAddU Z.K) (tC (.int 2)) (tVar 3)) tNil))))))) (tRet (tC (.bl false))) tNext)))
    (tSeq (tAsg (tLst (tCons (tC (.int 1)) (tCons (tC (.int 2)) (tCons (tC (.int 2)) (tCons (tC (.int 2)) (tCons (tC (.int 2)) (tCons (tC (.int 2)) (tCons (tC (.int 2)) (tCons (tC (.int 2)) (tCons (tC (.int 2)) (tCons (tC (.int 2)) (tCons (tC (.int 3)) (tCons (tC (.int 1)) (tCons (tC (.int 0)) tNil)))))))))))))) (gName 5))
    (tSeq (tIfS (tTest (tOp (rI0 fun i j => .bl (decide (j < i))) (tCB (rLen Z.K) (tCons (tLc (iRng1 (tCons (tC (.int 13)) tNil)) (gName 3) (tNot (tB (tCallS (sp_Lis Z) (WE fun _ _ _ _ => False) (tCons (tCallS (sp_parts_of Z) (WE fun _ _ _ _ => False) (tCons (tOp (rAddU Z.K) (tC (.int 7)) (tVar 3)) tNil)) (tCons (tOp (rIx Z.K) (tVar 5) (tVar 3)) tNil))))) (tVar 3) [8, 3]) tNil)) (tC (.int 0)))) (tRet (tC (.bl false))) tNext)
    (tSeq (tFor (iRng1 (tCons (tC (.int 12)) tNil)) (gName 6) (tSeq (tAsg (tCallS (sp_Ltext Z) (WE W) (tCons (tVar 1) tNil)) (gName 7))
    (tSeq (tAsg (tCallS (sp_kind_of Z) (WE W) (tCons (tVar 7) tNil)) (gName 4))
    (tIfS (tTest (tOp (rIn Z.K false) (tVar 7) (tVar 2))) (tIfS (tNot (tB (tCallS (sp_Lis Z) (WE W) (tCons (tVar 4) (tCons (tOp (rAddU Z.K) (tC (.int 2)) (tBM Z.K "list" (rIndex Z.K) (tVar 2) (tCons (tVar 7) tNil))) tNil))))) (tRet (tC (.bl false))) tNext) (tIfS (tTest (tOp rNotNz (tVar 4) (tC .non))) (tRet (tC (.bl false))) tNext)))))
    (tRet (tC (.bl true)))))))))
end My
namespace My
open PySem L2 Z
theorem rd_word_of {Z : Adr} (T : Top Z) {a0 : V} {H : Hp} {Q : VK} {E : XK} (h : q_word_of Z a0 H Q E) : t_word_of Z (fun cls d _ H => E cls d H) ⟨fun _ H' => Q .non H', Q, fun _ _ => False, fun _ _ => False⟩ [some a0] H := by
  unfold t_word_of
  obtain ⟨i, w, rfl, hw, q⟩ := h
  walk_at "zz"
  refine s_add_t (T.s_EARLY H) (T.s_LATE H) (by simp) (by simp) (by decide) ?_
  intro t ht
  walk_at "zz"
  refine s_ix_t (SqT.of upd_same) (at_of (j := i) (v := .str w) (by omega) ?_) ?_
  · show (WD.map V.str)[i]? = _
    rw [List.getElem?_map, hw]
    rfl
  · exact q _ (same_new ht)

theorem rd_kind_of {Z : Adr} (T : Top Z) {a0 : V} {H : Hp} {Q : VK} {E : XK} (h : q_kind_of Z a0 H Q E) : t_kind_of Z (fun cls d _ H => E cls d H) ⟨fun _ H' => Q .non H', Q, fun _ _ => False, fun _ _ => False⟩ [some a0, none] H := by
  unfold t_kind_of
  obtain ⟨w, rfl, q⟩ := h
  walk_at "zz"
  refine loop_range (fun i σ' H' => Same H H' ∧ kindF (2 + (i : Int)) (WD.drop i) w = kindF 2 WD w ∧ ∃ x, σ' = [some (.str w), x]) ⟨Same.refl H, by simp, _, rfl⟩ ?_ ?_
  · rintro i σ' H' hi ⟨S, e, x, rfl⟩
    have hi' : i < WD.length := by rw [WD_len]; exact hi
    walk_at "zz"
    refine cl_word_of ⟨i, WD[i], rfl, List.getElem?_eq_getElem hi', fun H2 S2 => ?_⟩
    rw [List.drop_eq_getElem_cons hi'] at e
    have e : (if WD[i] = w then V.int (2 + (i : Int)) else kindF (2 + (i : Int) + 1) (WD.drop (i + 1)) w) = kindF 2 WD w := e
    walk_at "zz"
    refine s_ifd (fun c => ?_) (fun c => ?_)
    · rw [if_pos c] at e
      walk_at "zz"
      rw [e]
      exact q _ (S.trans S2)
    · rw [if_neg c] at e
      walk_at "zz"
      exact ⟨S.trans S2, by rw [← e]; rfl, _, rfl⟩
  · rintro σ' H' ⟨S, e, x, rfl⟩
    walk_at "zz"
    have e : V.non = kindF 2 WD w := e
    rw [e]
    exact q _ S

theorem rd_parts_of {Z : Adr} (T : Top Z) {a0 : V} {H : Hp} {Q : VK} {E : XK} (h : q_parts_of Z a0 H Q E) : t_parts_of Z (fun cls d _ H => E cls d H) ⟨fun _ H' => Q .non H', Q, fun _ _ => False, fun _ _ => False⟩ [some a0] H := by
  unfold t_parts_of
  obtain ⟨i, rfl, q⟩ := h
  unfold manyP at q
  walk_at "zz"
  refine s_ifd (fun c => ?_) (fun c => ?_)
  · rw [if_pos c] at q
    walk_at "zz"
    exact q _ (Same.refl H)
  · rw [if_neg c] at q
    walk_at "zz"
    intro t ht
    walk_at "zz"
    refine s_in_t (SqT.of upd_same) rfl rfl ?_
    walk_at "zz"
    have S := same_new (o := .tup [.int 7, .int 18]) ht
    have e : inV (.int i) [.int 7, .int 18] = decide (i = 7 ∨ i = 18) := by
      simp only [inV, List.any, eqV, Bool.or_false]
      rw [Bool.decide_or]
      congr 1 <;> (rw [Bool.eq_iff_iff]; simp; omega)
    rw [e]
    refine s_ifd (fun c => ?_) (fun c => ?_)
    · rw [if_pos c] at q
      walk_at "zz"
      exact q _ S
    · rw [if_neg c] at q
      walk_at "zz"
      refine s_ifd (fun c => ?_) (fun c => ?_)
      · rw [if_pos c] at q
        walk_at "zz"
        exact q _ S
      · rw [if_neg c] at q
        walk_at "zz"
        exact q _ S

theorem rd_Lmixed {Z : Adr} (T : Top Z) {a0 a1 : V} {H : Hp} {Q : VK} {E : XK} (h : q_Lmixed Z a0 a1 H Q E) : t_Lmixed Z (fun cls d _ H => E cls d H) ⟨fun _ H' => Q .non H', Q, fun _ _ => False, fun _ _ => False⟩ [some a0, some a1, none, none] H := by
  unfold t_Lmixed
  obtain ⟨c, k, rfl, rfl, q⟩ := h
  walk_at "zz"
  repeat (refine s_mulp (by omega) ?_; walk_at "zz")
  exact q _

theorem rd_Ltake {Z : Adr} (T : Top Z) {a0 a1 : V} {H : Hp} {Q : VK} {E : XK} (h : q_Ltake Z a0 a1 H Q E) : t_Ltake Z (fun cls d _ H => E cls d H) ⟨fun _ H' => Q .non H', Q, fun _ _ => False, fun _ _ => False⟩ [some a0, some a1, none, none, none, none] H := by
  unfold t_Ltake
  obtain ⟨p, m, rfl, rfl, hm, hm2, ⟨sa, ns, k, l, hS, hk, hl, hp⟩, q⟩ := h
  have hsq := hS.sq
  walk_at "zz"
  refine s_cut (fun σ' H' => ∃ (k' l' : Int) (x2 x3 x4 : Option V), But p H H' ∧ H' p = some (.lst [.ref sa, .int k', .int l']) ∧ 0 ≤ k' ∧ 0 ≤ l' ∧ σ' = [some (.ref p), some (.int m), x2, x3, x4, none]) ?_ ?_
  · walk_at "zz"
    refine s_ix_l (SqL.of hp) (v := .int l) rfl ?_
    walk_at "zz"
    refine s_ifd (fun c => ?_) (fun c => ?_)
    · walk_at "zz"
      refine s_ix_l (SqL.of hp) (v := .ref sa) rfl ?_
      walk_at "zz"
      refine s_ix_l (SqL.of hp) (v := .int k) rfl ?_
      walk_at "zz"
      refine c_setL 1 [.ref sa, .int (k + 1), .int l] hp rfl rfl fun H1 B1 hp1 => ?_
      have hS1 := hS.but B1
      have hsq1 := hS1.sq
      walk_at "zz"
      refine s_cut (fun σ' H' => H' = H1 ∧ ∃ c : Int, σ' = [some (.ref p), some (.int m), some (.ref sa), some (.int k), some (.int c), none]) ?_ ?_
      · walk_at "zz"
        rw [List.length_map]
        refine s_ifd (fun c => ?_) (fun c => ?_)
        · walk_at "zz"
          obtain ⟨w, hw, ew⟩ := at_ints ns hk c
          refine s_ix_l hsq1 ew ?_
          walk_at "zz"
          exact ⟨rfl, _, rfl⟩
        · walk_at "zz"
          rw [List.length_map]
          refine s_ifd (fun c => ?_) (fun c => ?_)
          · walk_at "zz"
            rw [List.length_map]
            refine s_modp c ?_
            walk_at "zz"
            obtain ⟨w, hw, ew⟩ := at_ints ns (i := k % ns.length) (Int.emod_nonneg _ (by omega)) (Int.emod_lt_of_pos _ c)
            refine s_ix_l hsq1 ew ?_
            walk_at "zz"
            exact ⟨rfl, _, rfl⟩
          · walk_at "zz"
            exact ⟨rfl, _, rfl⟩
      · rintro σ' H' ⟨rfl, c, rfl⟩
        walk_at "zz"
        refine s_ifd (fun c1 => ?_) (fun c1 => ?_)
        · walk_at "zz"
          refine cl_Lmixed ⟨c, k, rfl, rfl, fun z => ?_⟩
          walk_at "zz"
          exact q _ _ (Int.emod_nonneg _ (by omega)) (Int.emod_lt_of_pos _ hm) ⟨sa, ns, k + 1, l, hS1, by omega, hl, hp1⟩ B1
        · walk_at "zz"
          refine c_setL 2 [.ref sa, .int (k + 1), .int (if c < 0 then -c else c)] hp1 rfl rfl fun H2 B2 hp2 => ?_
          walk_at "zz"
          exact ⟨k + 1, _, _, _, _, B1.trans B2, hp2, by omega, by split <;> omega, rfl⟩
    · walk_at "zz"
      exact ⟨k, l, _, _, _, But.refl _ _, hp, hk, hl, rfl⟩
  · rintro σ' H' ⟨k', l', x2, x3, x4, B, hp', hk', hl', rfl⟩
    walk_at "zz"
    refine s_ix_l (SqL.of hp') (v := .int l') rfl ?_
    walk_at "zz"
    refine s_ix_l (SqL.of hp') (v := .int l') rfl ?_
    walk_at "zz"
    refine c_setL 2 [.ref sa, .int k', .int (l' / m)] hp' rfl rfl fun H2 B2 hp2 => ?_
    walk_at "zz"
    exact q _ _ (Int.emod_nonneg _ (by omega)) (Int.emod_lt_of_pos _ hm) ⟨sa, ns, k', l' / m, hS.but (B.trans B2), hk', Int.ediv_nonneg hl' (by omega), hp2⟩ (B.trans B2)

theorem rd_Lwords {Z : Adr} (T : Top Z) {H : Hp} {Q : VK} {E : XK} (h : q_Lwords Z  H Q E) : t_Lwords Z (fun cls d _ H => E cls d H) ⟨fun _ H' => Q .non H', Q, fun _ _ => False, fun _ _ => False⟩ [none] H := by
  unfold t_Lwords
  have q := h
  walk_at "zz"
  intro l1 h1
  walk_at "zz"
  intro l2 h2
  refine s_add_l (up_new h2 upd_same) upd_same (by decide) ?_
  intro l3 h3
  refine q l3 _ (((same_new h1).trans (same_new h2)).trans (same_new h3)) ?_ upd_same
  have n2 : l3 ≠ l2 := fun e => by subst e; rw [upd_same] at h3; cases h3
  rw [upd_ne n2] at h3
  have n1 : l3 ≠ l1 := fun e => by subst e; rw [upd_same] at h3; cases h3
  rw [upd_ne n1] at h3
  exact h3

theorem rd_Ltext {Z : Adr} (T : Top Z) {a0 : V} {H : Hp} {Q : VK} {E : XK} (h : q_Ltext Z a0 H Q E) : t_Ltext Z (fun cls d _ H => E cls d H) ⟨fun _ H' => Q .non H', Q, fun _ _ => False, fun _ _ => False⟩ [some a0, none, none, none, none, none, none, none] H := by
  unfold t_Ltext
  obtain ⟨p, rfl, hSt, q⟩ := h
  walk_at "zz"
  refine cl_Lwords fun l H1 S1 hl hl1 => ?_
  have T1 := hSt.same S1
  walk_at "zz"
  refine cl_Ltake ⟨p, 18, rfl, rfl, by omega, by omega, T1, fun v H2 v0 v1 T2 B2 => ?_⟩
  have hl2 := B2.rd (hSt.ne hl) hl1
  have hv : v.toNat < WD.length := by rw [WD_len]; omega
  have lw : ∀ w ∈ WD, w.length ≤ 10 := by decide +kernel
  have hw := lw _ (List.getElem_mem hv)
  refine s_ix_l (SqL.of hl2) (at_of (j := v.toNat) (v := .str (WD[v.toNat])) (by omega) (by rw [List.getElem?_map, List.getElem?_eq_getElem hv]; rfl)) ?_
  generalize WD[v.toNat] = w at *
  have hwS : w.length ≤ sizeLine := Nat.le_trans hw (by decide)
  walk_at "zz"
  refine s_len_s hwS ?_
  walk_at "zz"
  refine cl_Ltake ⟨p, w.length + 1, rfl, rfl, by omega, by omega, T2, fun at' H3 a0 a1 T3 B3 => ?_⟩
  walk_at "zz"
  refine s_len_s (by decide) ?_
  walk_at "zz"
  refine cl_Ltake ⟨p, 39, rfl, rfl, by omega, by omega, T3, fun sg H4 g0 g1 T4 B4 => ?_⟩
  have sig : ∀ i : Int, 0 ≤ i → i < 39 → ∃ cc, atI (("abcdefghijklmnopqrstuvwxyzALPSU 0189-_." : Str)).cps.toList i = some cc := by
    intro i h0 h1
    have hl : i.toNat < (("abcdefghijklmnopqrstuvwxyzALPSU 0189-_." : Str)).cps.toList.length := by show i.toNat < 39; omega
    exact ⟨_, at_ofN (j := i.toNat) (Int.toNat_of_nonneg h0).symm (List.getElem?_eq_getElem hl)⟩
  obtain ⟨cc, ec⟩ := sig sg g0 g1
  refine s_ix_s (by decide) ec ?_
  walk_at "zz"
  refine cl_Ltake ⟨p, 6, rfl, rfl, by omega, by omega, T4, fun way H5 y0 y1 T5 B5 => ?_⟩
  have BB := (((But.of S1).trans B2).trans B3).trans (B4.trans B5)
  have cl : ∀ lo hi, (cutS w lo hi).length ≤ 10 := fun lo hi => Nat.le_trans (cutS_length w lo hi) hw
  have c1 : (⟨#[cc]⟩ : Str).length = 1 := rfl
  have ap : ∀ x y : Str, (x ++ y).length = x.length + y.length := fun x y => PySem.Str.length_append x y
  have sz : 100 ≤ sizeLine := by decide
  walk_at "zz"
  refine s_ifd (fun c => ?_) (fun c => ?_)
  · walk_at "zz"
    refine s_slS hwS ?_
    walk_at "zz"
    have z1 := cl none (some at')
    have z2 := cl (some at') none
    refine s_add_s (by omega) ?_
    walk_at "zz"
    refine s_slS hwS ?_
    refine s_add_s (by rw [ap]; omega) ?_
    exact q _ _ T5 BB
  walk_at "zz"
  refine s_ifd (fun c => ?_) (fun c => ?_)
  · walk_at "zz"
    refine s_slS hwS ?_
    walk_at "zz"
    refine s_slS hwS ?_
    have z1 := cl none (some at')
    have z2 := cl (some (at' + 1)) none
    refine s_add_s (by omega) ?_
    exact q _ _ T5 BB
  walk_at "zz"
  refine s_ifd (fun c => ?_) (fun c => ?_)
  · walk_at "zz"
    refine s_slS hwS ?_
    walk_at "zz"
    have z1 := cl none (some at')
    have z2 := cl (some (at' + 1)) none
    refine s_add_s (by omega) ?_
    walk_at "zz"
    refine s_slS hwS ?_
    refine s_add_s (by rw [ap]; omega) ?_
    exact q _ _ T5 BB
  walk_at "zz"
  refine s_ifd (fun c => ?_) (fun c => ?_)
  · walk_at "zz"
    intro l3 hl3
    walk_at "zz"
    refine cl_Ltake ⟨p, 10, rfl, rfl, by omega, by omega, T5.new hl3, fun v6 H6 v60 v61 T6 B6 => ?_⟩
    have hl6 := B6.rd (T5.ne hl3) upd_same
    have lst : ∀ v : Int, 0 ≤ v → v < 10 → ∃ w : Str, atI [V.str "", .str "number", .str "get", .str "if", .str "fun", .str "with", .str "is", .str "0", .str "not", .str "and"] v = some (.str w) := by
      intro v h0 h1
      have : v = 0 ∨ v = 1 ∨ v = 2 ∨ v = 3 ∨ v = 4 ∨ v = 5 ∨ v = 6 ∨ v = 7 ∨ v = 8 ∨ v = 9 := by omega
      rcases this with e | e | e | e | e | e | e | e | e | e <;> subst e <;> exact ⟨_, rfl⟩
    obtain ⟨w6, e6⟩ := lst v6 v60 v61
    refine s_ix_l (SqL.of hl6) e6 ?_
    exact q _ _ T6 ((BB.new hl3).trans B6)
  walk_at "zz"
  refine s_ifd (fun c => ?_) (fun c => ?_)
  · walk_at "zz"
    refine cl_Ltake ⟨p, 6, rfl, rfl, by omega, by omega, T5, fun v6 H6 v60 v61 T6 B6 => ?_⟩
    walk_at "zz"
    refine lc_rng (fun D j H' => St3 Z.K H' p ∧ But p H6 H' ∧ ∃ ys : List Str, H' D = some (.lst (ys.map V.str)) ∧ ys.length = j ∧ ∀ y ∈ ys, y.length = 1) (fun D hD => ⟨T6.new hD, (But.refl p H6).new hD, [], upd_same, rfl, by simp⟩) ?_ ?_
    · rintro D j H7 hD hj ⟨T7, B7, ys, hy, hyl, hya⟩
      walk_at "zz"
      refine cl_Ltake ⟨p, 26, rfl, rfl, by omega, by omega, T7, fun v8 H8 v80 v81 T8 B8 => ?_⟩
      have nD : D ≠ p := T6.ne hD
      obtain ⟨c8, e8⟩ := sig v8 v80 (by omega)
      refine s_ix_s (by decide) e8 ?_
      refine c_acc (B8.rd nD hy) (small1000 (by rw [List.length_map]; omega)) fun H9 B9 h9 => ?_
      exact ⟨T8.but B9 nD.symm, (B7.trans B8).own B9 hD, ys ++ [⟨#[c8]⟩], by rw [h9, List.map_append]; rfl, by rw [List.length_append, hyl]; rfl, fun y hm => by
        rcases List.mem_append.mp hm with m | m
        · exact hya y m
        · rw [List.mem_singleton.mp m]; rfl⟩
    · rintro D H7 hD ⟨T7, B7, ys, hy, hyl, hya⟩
      walk_at "zz"
      have sm : (ys.map (·.length)).sum ≤ ys.length := by
        clear hy hyl
        induction ys with
        | nil => simp
        | cons y r ih =>
          have a := hya y (by simp)
          have b := ih fun z hz => hya z (by simp [hz])
          simp only [List.map_cons, List.sum_cons, List.length_cons]
          omega
      refine s_join_l (SqL.of hy) (by have : ("" : Str).length = 0 := rfl; rw [this]; omega) ?_
      exact q _ _ T7 ((BB.trans B6).trans B7)
  walk_at "zz"
  exact q _ _ T5 BB

theorem rd_Lis {Z : Adr} (T : Top Z) {a0 a1 : V} {H : Hp} {Q : VK} {E : XK} (h : q_Lis Z a0 a1 H Q E) : t_Lis Z (fun cls d _ H => E cls d H) ⟨fun _ H' => Q .non H', Q, fun _ _ => False, fun _ _ => False⟩ [some a0, some a1] H := by
  unfold t_Lis
  obtain ⟨i, rfl, rfl, q⟩ := h
  walk_at "zz"
  refine s_isi (bb := true) (.ty "int") (.base (.int i)) (kit_ty (by decide +kernel)) ?_
  walk_at "zz"
  refine s_isi (bb := false) (.ty "bool") (.base (.int i)) (kit_ty (by decide +kernel)) ?_
  walk_at "zz"
  rw [decide_eq_true rfl]
  exact q

theorem rd_law {Z : Adr} (T : Top Z) {a0 : V} {H : Hp} {Q : VK} {E : XK} (h : q_law Z a0 H Q E) : t_law Z (fun cls d _ H => E cls d H) ⟨fun _ H' => Q .non H', Q, fun _ _ => False, fun _ _ => False⟩ [some a0, none, none, none, none, none, none, none, none] H := by
  unfold t_law
  obtain ⟨a, ns, rfl, hO, hS, hns, q⟩ := h
  walk_at "zz"
  intro p hp
  walk_at "zz"
  have hSt : St3 Z.K (upd H p (.lst [.ref a, .int 0, .int 0])) p := ⟨a, ns, 0, 0, hS.same (same_new hp), by omega, by omega, upd_same⟩
  refine cl_Lwords fun l H1 S1 hl hl1 => ?_
  have St1 := hSt.same S1
  have nl : l ≠ p := hSt.ne hl
  walk_at "zz"
  have nowd : ∀ (w : Str) (i : Nat), WD[i]? = some w → kindF 2 WD w = .int (2 + i) := by
    intro w i hi
    rcases kindF_spec w WD 2 with ⟨x, _⟩ | ⟨j, x, y, z⟩
    · exact absurd (List.mem_of_getElem? hi) x
    · have nd : WD.Nodup := by decide +kernel
      rw [z]
      have : j = i := by
        have hj := (List.getElem?_eq_some_iff.mp x)
        have hi' := (List.getElem?_eq_some_iff.mp hi)
        exact (List.getElem_inj nd).mp (hj.2.trans hi'.2.symm)
      rw [this]
  refine loop_range (fun i σ' H' => Same H1 H' ∧ ∃ x3 x4, σ' = [some (.ref a), some (.ref p), some (.ref l), x3, x4, none, none, none, none]) ⟨Same.refl _, _, _, rfl⟩ ?_ ?_
  · rintro i σ' H' hi ⟨S, x3, x4, rfl⟩
    have hi' : i < WD.length := by rw [WD_len]; exact hi
    have ei : WD[i]? = some WD[i] := List.getElem?_eq_getElem hi'
    walk_at "zz"
    refine cl_word_of ⟨i, WD[i], by rw [Int.zero_add], ei, fun H2 S2 => ?_⟩
    have hl2 := (S.trans S2) _ _ hl1
    walk_at "zz"
    refine s_isi (bb := true) (.ty "str") (.base (.str _)) (kit_ty (by decide +kernel)) ?_
    walk_at "zz"
    have eat : atI (WD.map V.str) (0 + (i : Int)) = some (.str WD[i]) := at_of (j := i) (by omega) (by rw [List.getElem?_map, ei]; rfl)
    refine s_ix_l (SqL.of hl2) eat ?_
    walk_at "zz"
    rw [decide_eq_true rfl]
    walk_at "zz"
    refine s_ix_l (SqL.of hl2) eat ?_
    walk_at "zz"
    refine cl_kind_of ⟨_, rfl, fun H3 S3 => ?_⟩
    rw [nowd _ _ ei]
    walk_at "zz"
    refine cl_Lis ⟨2 + i, rfl, by rw [Int.zero_add], ?_⟩
    walk_at "zz"
    exact ⟨(S.trans S2).trans S3, _, _, rfl⟩
  · rintro σ' H' ⟨S, x3, x4, rfl⟩
    have St2 := St1.same S
    have hl2 := S _ _ hl1
    walk_at "zz"
    intro lm hlm
    walk_at "zz"
    have St3' := St2.new (o := .lst [.int 1, .int 2, .int 2, .int 2, .int 2, .int 2, .int 2, .int 2, .int 2, .int 2, .int 3, .int 1, .int 0]) hlm
    refine lc_rng (fun D j H2 => Same (upd H' lm (.lst [.int 1, .int 2, .int 2, .int 2, .int 2, .int 2, .int 2, .int 2, .int 2, .int 2, .int 3, .int 1, .int 0])) H2 ∧ H2 D = some (.lst [])) (fun D hD => ⟨same_new hD, upd_same⟩) ?_ ?_
    · rintro D j H2 hD hj ⟨S2, hD2⟩
      walk_at "zz"
      refine cl_parts_of ⟨_, rfl, fun H3 S3 => ?_⟩
      walk_at "zz"
      have lm3 := (S2.trans S3) _ _ upd_same
      refine s_ix_l (v := .int (manyP (7 + (0 + (j : Int))))) (SqL.of lm3) ?_ ?_
      · have : j = 0 ∨ j = 1 ∨ j = 2 ∨ j = 3 ∨ j = 4 ∨ j = 5 ∨ j = 6 ∨ j = 7 ∨ j = 8 ∨ j = 9 ∨ j = 10 ∨ j = 11 ∨ j = 12 := by have : j < 13 := hj; omega
        rcases this with e | e | e | e | e | e | e | e | e | e | e | e | e <;> subst e <;> rfl
      walk_at "zz"
      refine cl_Lis ⟨_, rfl, rfl, ?_⟩
      walk_at "zz"
      exact ⟨S2.trans S3, S3 _ _ hD2⟩
    · rintro D H2 hD ⟨S2, hD2⟩
      walk_at "zz"
      refine s_ifdf (by simp) ?_
      walk_at "zz"
      refine loop_range (fun i σ' H' => St3 Z.K H' p ∧ H' l = some (.lst (WD.map V.str)) ∧ ∃ x3 x4 x6 x7, σ' = [some (.ref a), some (.ref p), some (.ref l), x3, x4, some (.ref lm), x6, x7, none]) ⟨St3'.same S2, S2 _ _ (up_new hlm hl2), _, _, _, _, rfl⟩ ?_ ?_
      · rintro i σ' H4 hi ⟨St4, hl4, x3, x4, x6, x7, rfl⟩
        walk_at "zz"
        refine cl_Ltext ⟨p, rfl, St4, fun w H5 St5 B5 => ?_⟩
        have hl5 := B5.rd nl hl4
        walk_at "zz"
        refine cl_kind_of ⟨w, rfl, fun H6 S6 => ?_⟩
        have hl6 := S6 _ _ hl5
        walk_at "zz"
        have fl : (WD.map V.str).all flatV = true := rfl
        have inn : inV (.str w) (WD.map V.str) = decide (w ∈ WD) := by
          unfold inV
          rw [List.any_map, Bool.eq_iff_iff]
          simp only [List.any_eq_true, Function.comp_apply, eqV, beq_iff_eq, exists_eq_right, decide_eq_true_eq]
        refine s_in_l (SqL.of hl6) rfl fl ?_
        rw [inn]
        walk_at "zz"
        rcases kindF_spec w WD 2 with ⟨x, z⟩ | ⟨j, x, y, z⟩
        · rw [z]
          refine s_ifdf x ?_
          walk_at "zz"
          exact ⟨St5.same S6, hl6, _, _, _, _, rfl⟩
        · rw [z]
          refine s_ifdt (List.mem_of_getElem? x) ?_
          walk_at "zz"
          refine s_index (j := j) (z := .str w) (SqL.of hl6) rfl fl (by rw [List.getElem?_map, x]; rfl) (by simp [eqV]) ?_ ?_
          · intro m z' hm hz
            rw [List.getElem?_map] at hz
            cases em : WD[m]? with
            | none => rw [em] at hz; cases hz
            | some u =>
              rw [em] at hz
              cases hz
              have : u ≠ w := fun e => y m hm (by rw [em, e])
              simpa [eqV] using this
          walk_at "zz"
          refine cl_Lis ⟨_, rfl, rfl, ?_⟩
          walk_at "zz"
          exact ⟨St5.same S6, hl6, _, _, _, _, rfl⟩
      · rintro σ' H4 ⟨St4, hl4, x3, x4, x6, x7, rfl⟩
        walk_at "zz"
        exact q _

theorem sc_word_of : FnScope nm_word_of ["kind"] (defScope st_word_of) := ⟨rfl, rfl, rfl, by decide +kernel, rfl, by decide +kernel, by decide +kernel⟩
theorem ok_word_of {P : Program} {w : World} {base : Heap} {Z : Adr} (T : Top Z)  : FnOk P w Z.K Z.mg base (L2.CX P w) 1 Z.f_word_of Z.d_word_of ["kind"] (sp_word_of Z) := by
  refine FnOk.mono (T.F_word_of.okX (k := 0) sc_word_of (fun vs H Q E h => ?_) (fun cdv A outer s H vs Q E hr h => ?_)) (by decide)
  · obtain ⟨a0, rfl, _⟩ := h; rfl
  · obtain ⟨a0, rfl, h⟩ := h
    have tk : Takes (cxOf (L2.CX P w) P w Z.K Z.mg base nm_word_of "word_of" (defScope st_word_of) Z.f_word_of cdv A outer s H E) (fun cls d _ H => E cls d H) := takes_of rfl rfl rfl rfl
    have po : PassesOwn (model P w) (cxOf (L2.CX P w) P w Z.K Z.mg base nm_word_of "word_of" (defScope st_word_of) Z.f_word_of cdv A outer s H E).A (cxOf (L2.CX P w) P w Z.K Z.mg base nm_word_of "word_of" (defScope st_word_of) Z.f_word_of cdv A outer s H E).env (cxOf (L2.CX P w) P w Z.K Z.mg base nm_word_of "word_of" (defScope st_word_of) Z.f_word_of cdv A outer s H E).xe := passes_of rfl
    refine ⟨t_word_of Z (fun cls d _ H => E cls d H), ?_, rd_word_of T h⟩
    exact (pss_one (ps_ret (pe_ix ix_seq (pe_op op_addU (pe_glob rfl T.g_EARLY rfl) (pe_glob rfl T.g_LATE rfl)) (pe_op op_sub (pv 0) (pe_glob rfl T.g_SET ⟨_, rfl⟩)) (fun _ _ => rfl))))

theorem sc_kind_of : FnScope nm_kind_of ["word"] (defScope st_kind_of) := ⟨rfl, rfl, rfl, by decide +kernel, rfl, by decide +kernel, by decide +kernel⟩
theorem ok_kind_of {P : Program} {w : World} {base : Heap} {Z : Adr} (T : Top Z) (G_word_of : FnOk P w Z.K Z.mg base (L2.CX P w) 1 Z.f_word_of Z.d_word_of ["kind"] (sp_word_of Z)) : FnOk P w Z.K Z.mg base (L2.CX P w) 2 Z.f_kind_of Z.d_kind_of ["word"] (sp_kind_of Z) := by
  refine FnOk.mono (T.F_kind_of.okX (k := 1) sc_kind_of (fun vs H Q E h => ?_) (fun cdv A outer s H vs Q E hr h => ?_)) (by decide)
  · obtain ⟨a0, rfl, _⟩ := h; rfl
  · obtain ⟨a0, rfl, h⟩ := h
    have tk : Takes (cxOf (L2.CX P w) P w Z.K Z.mg base nm_kind_of "kind_of" (defScope st_kind_of) Z.f_kind_of cdv A outer s H E) (fun cls d _ H => E cls d H) := takes_of rfl rfl rfl rfl
    have po : PassesOwn (model P w) (cxOf (L2.CX P w) P w Z.K Z.mg base nm_kind_of "kind_of" (defScope st_kind_of) Z.f_kind_of cdv A outer s H E).A (cxOf (L2.CX P w) P w Z.K Z.mg base nm_kind_of "kind_of" (defScope st_kind_of) Z.f_kind_of cdv A outer s H E).env (cxOf (L2.CX P w) P w Z.K Z.mg base nm_kind_of "kind_of" (defScope st_kind_of) Z.f_kind_of cdv A outer s H E).xe := passes_of rfl
    refine ⟨t_kind_of Z (fun cls d _ H => E cls d H), ?_, rd_kind_of T h⟩
    exact (pss_cons (ps_for po rfl (pi_range2 rfl T.n_range (pa_cons (pe_glob rfl T.g_SET ⟨_, rfl⟩) (pa_cons (pe_op op_addU (pe_glob rfl T.g_NEW ⟨_, rfl⟩) pe_int) pa_nil))) (pg_name (i := 1) sc_kind_of.nd rfl (Or.inl rfl)) (pss_one (ps_if (pt_cmpR (op_eqU (hr.units)) (pe_callS G_word_of (hr.mono (by decide)) rfl T.m_word_of T.k_word_of T.b_word_of (fun σ => passAt tk σ) (pa_cons (pv 1) pa_nil)) (pv 0) (nomark _)) (pss_one (ps_ret (pv 1))) pss_nil)))
      (pss_one (ps_ret pe_non)))

theorem sc_parts_of : FnScope nm_parts_of ["kind"] (defScope st_parts_of) := ⟨rfl, rfl, rfl, by decide +kernel, rfl, by decide +kernel, by decide +kernel⟩
theorem ok_parts_of {P : Program} {w : World} {base : Heap} {Z : Adr} (T : Top Z)  : FnOk P w Z.K Z.mg base (L2.CX P w) 1 Z.f_parts_of Z.d_parts_of ["kind"] (sp_parts_of Z) := by
  refine FnOk.mono (T.F_parts_of.okX (k := 0) sc_parts_of (fun vs H Q E h => ?_) (fun cdv A outer s H vs Q E hr h => ?_)) (by decide)
  · obtain ⟨a0, rfl, _⟩ := h; rfl
  · obtain ⟨a0, rfl, h⟩ := h
    have tk : Takes (cxOf (L2.CX P w) P w Z.K Z.mg base nm_parts_of "parts_of" (defScope st_parts_of) Z.f_parts_of cdv A outer s H E) (fun cls d _ H => E cls d H) := takes_of rfl rfl rfl rfl
    have po : PassesOwn (model P w) (cxOf (L2.CX P w) P w Z.K Z.mg base nm_parts_of "parts_of" (defScope st_parts_of) Z.f_parts_of cdv A outer s H E).A (cxOf (L2.CX P w) P w Z.K Z.mg base nm_parts_of "parts_of" (defScope st_parts_of) Z.f_parts_of cdv A outer s H E).env (cxOf (L2.CX P w) P w Z.K Z.mg base nm_parts_of "parts_of" (defScope st_parts_of) Z.f_parts_of cdv A outer s H E).xe := passes_of rfl
    refine ⟨t_parts_of Z (fun cls d _ H => E cls d H), ?_, rd_parts_of T h⟩
    exact (pss_cons (ps_if (pt_cmpR (op_eqU (hr.units)) (pv 0) (pe_glob rfl T.g_NEW ⟨_, rfl⟩) (nomark _)) (pss_one (ps_ret pe_int)) pss_nil)
      (pss_cons (ps_if (pt_cmpR op_in_seq (pv 0) (pe_tup (pa_cons (pe_glob rfl T.g_FAIL ⟨_, rfl⟩) (pa_cons (pe_glob rfl T.g_SIZE ⟨_, rfl⟩) pa_nil))) (by rfl)) (pss_one (ps_ret pe_int)) pss_nil)
      (pss_cons (ps_if (pt_cmpR (op_eqU (hr.units)) (pv 0) (pe_glob rfl T.g_PUT ⟨_, rfl⟩) (nomark _)) (pss_one (ps_ret pe_int)) pss_nil)
      (pss_one (ps_ret pe_int)))))

theorem sc_Lmixed : FnScope nm_Lmixed ["_law_cell", "_law_k"] (defScope st_Lmixed) := ⟨rfl, rfl, rfl, by decide +kernel, rfl, by decide +kernel, by decide +kernel⟩
theorem ok_Lmixed {P : Program} {w : World} {base : Heap} {Z : Adr} (T : Top Z)  : FnOk P w Z.K Z.mg base (L2.CX P w) 1 Z.f_Lmixed Z.d_Lmixed ["_law_cell", "_law_k"] (sp_Lmixed Z) := by
  refine FnOk.mono (T.F_Lmixed.okX (k := 0) sc_Lmixed (fun vs H Q E h => ?_) (fun cdv A outer s H vs Q E hr h => ?_)) (by decide)
  · obtain ⟨a0, a1, rfl, _⟩ := h; rfl
  · obtain ⟨a0, a1, rfl, h⟩ := h
    have tk : Takes (cxOf (L2.CX P w) P w Z.K Z.mg base nm_Lmixed "_law_mixed" (defScope st_Lmixed) Z.f_Lmixed cdv A outer s H E) (fun cls d _ H => E cls d H) := takes_of rfl rfl rfl rfl
    have po : PassesOwn (model P w) (cxOf (L2.CX P w) P w Z.K Z.mg base nm_Lmixed "_law_mixed" (defScope st_Lmixed) Z.f_Lmixed cdv A outer s H E).A (cxOf (L2.CX P w) P w Z.K Z.mg base nm_Lmixed "_law_mixed" (defScope st_Lmixed) Z.f_Lmixed cdv A outer s H E).env (cxOf (L2.CX P w) P w Z.K Z.mg base nm_Lmixed "_law_mixed" (defScope st_Lmixed) Z.f_Lmixed cdv A outer s H E).xe := passes_of rfl
    refine ⟨t_Lmixed Z (fun cls d _ H => E cls d H), ?_, rd_Lmixed T h⟩
    exact (pss_cons (ps_set (i := 2) sc_Lmixed.nd rfl (Or.inl rfl) (pe_op op_md (pe_op op_ml (pe_op op_addU (pe_op op_addU (pe_op op_md (pv 0) pe_int) (pe_op op_ml pe_int (pv 1))) pe_int) pe_int) pe_int))
      (pss_cons (ps_set (i := 3) sc_Lmixed.nd rfl (Or.inl rfl) (pe_op op_md (pe_op op_addU (pe_op op_addU (pe_op op_ml (pv 2) (pv 2)) (pe_op op_ml pe_int (pv 2))) (pe_op op_ml pe_int (pv 1))) pe_int))
      (pss_one (ps_ret (pe_op op_fdv (pe_op op_md (pe_op op_ml (pv 3) (pe_op op_addU (pv 3) pe_int)) pe_int) pe_int)))))

theorem sc_Ltake : FnScope nm_Ltake ["_law_state", "_law_many"] (defScope st_Ltake) := ⟨rfl, rfl, rfl, by decide +kernel, rfl, by decide +kernel, by decide +kernel⟩
theorem ok_Ltake {P : Program} {w : World} {base : Heap} {Z : Adr} (T : Top Z) (G_Lmixed : FnOk P w Z.K Z.mg base (L2.CX P w) 1 Z.f_Lmixed Z.d_Lmixed ["_law_cell", "_law_k"] (sp_Lmixed Z)) : FnOk P w Z.K Z.mg base (L2.CX P w) 2 Z.f_Ltake Z.d_Ltake ["_law_state", "_law_many"] (sp_Ltake Z) := by
  refine FnOk.mono (T.F_Ltake.okX (k := 1) sc_Ltake (fun vs H Q E h => ?_) (fun cdv A outer s H vs Q E hr h => ?_)) (by decide)
  · obtain ⟨a0, a1, rfl, _⟩ := h; rfl
  · obtain ⟨a0, a1, rfl, h⟩ := h
    have tk : Takes (cxOf (L2.CX P w) P w Z.K Z.mg base nm_Ltake "_law_take" (defScope st_Ltake) Z.f_Ltake cdv A outer s H E) (fun cls d _ H => E cls d H) := takes_of rfl rfl rfl rfl
    have po : PassesOwn (model P w) (cxOf (L2.CX P w) P w Z.K Z.mg base nm_Ltake "_law_take" (defScope st_Ltake) Z.f_Ltake cdv A outer s H E).A (cxOf (L2.CX P w) P w Z.K Z.mg base nm_Ltake "_law_take" (defScope st_Ltake) Z.f_Ltake cdv A outer s H E).env (cxOf (L2.CX P w) P w Z.K Z.mg base nm_Ltake "_law_take" (defScope st_Ltake) Z.f_Ltake cdv A outer s H E).xe := passes_of rfl
    refine ⟨t_Ltake Z (fun cls d _ H => E cls d H), ?_, rd_Ltake T h⟩
    exact (C8.pss_cut (ps_if (pt_cmpR (op_eqU (hr.units)) (pe_ix ix_seq (pv 0) pe_int (fun _ _ => rfl)) pe_int (nomark _)) (pss_cons (ps_set (i := 2) sc_Ltake.nd rfl (Or.inl rfl) (pe_ix ix_seq (pv 0) pe_int (fun _ _ => rfl)))
      (pss_cons (ps_set (i := 3) sc_Ltake.nd rfl (Or.inl rfl) (pe_ix ix_seq (pv 0) pe_int (fun _ _ => rfl)))
      (pss_cons (ps_asg (pe_op op_addU (pv 3) pe_int) (pg_sub (pv 0) pe_int set_list))
      (pss_cons (ps_set (i := 4) sc_Ltake.nd rfl (Or.inl rfl) pe_int)
      (C8.pss_cut (ps_if (pt_cmpR op_lt (pv 3) (pe_callB call_len' (by rfl) T.n_len (by decide +kernel) (pa_cons (pv 2) pa_nil)) (nomark _)) (pss_one (ps_set (i := 4) sc_Ltake.nd rfl (Or.inl rfl) (pe_ix ix_seq (pv 2) (pv 3) (fun _ _ => rfl)))) (pss_one (ps_if (pt_cmpR op_gt (pe_callB call_len' (by rfl) T.n_len (by decide +kernel) (pa_cons (pv 2) pa_nil)) pe_int (nomark _)) (pss_one (ps_set (i := 4) sc_Ltake.nd rfl (Or.inl rfl) (pe_op op_md (pe_ix ix_seq (pv 2) (pe_op op_md (pv 3) (pe_callB call_len' (by rfl) T.n_len (by decide +kernel) (pa_cons (pv 2) pa_nil))) (fun _ _ => rfl)) (pe_powc (by unfold CPow; decide) (by decide +kernel))))) pss_nil)))
      (pss_cons (ps_if (pt_cmpR op_lt (pe_callB call_abs' (by rfl) T.n_abs (by decide +kernel) (pa_cons (pv 4) pa_nil)) (pe_powc (by unfold CPow; decide) (by decide +kernel)) (nomark _)) (pss_one (ps_ret (pe_op op_md (pe_callS G_Lmixed (hr.mono (by decide)) rfl T.m_Lmixed T.k_Lmixed T.b_Lmixed (fun σ => passAt tk σ) (pa_cons (pv 4) (pa_cons (pv 3) pa_nil))) (pv 1)))) pss_nil)
      (pss_one (ps_asg (pe_callB call_abs' (by rfl) T.n_abs (by decide +kernel) (pa_cons (pv 4) pa_nil)) (pg_sub (pv 0) pe_int set_list))))))))) pss_nil)
      (pss_cons (ps_set (i := 5) sc_Ltake.nd rfl (Or.inl rfl) (pe_op op_md (pe_ix ix_seq (pv 0) pe_int (fun _ _ => rfl)) (pv 1)))
      (pss_cons (ps_asg (pe_op op_fdv (pe_ix ix_seq (pv 0) pe_int (fun _ _ => rfl)) (pv 1)) (pg_sub (pv 0) pe_int set_list))
      (pss_one (ps_ret (pv 5))))))

theorem sc_Lwords : FnScope nm_Lwords [] (defScope st_Lwords) := ⟨rfl, rfl, rfl, by decide +kernel, rfl, by decide +kernel, by decide +kernel⟩
theorem ok_Lwords {P : Program} {w : World} {base : Heap} {Z : Adr} (T : Top Z)  : FnOk P w Z.K Z.mg base (L2.CX P w) 1 Z.f_Lwords Z.d_Lwords [] (sp_Lwords Z) := by
  refine FnOk.mono (T.F_Lwords.okX (k := 0) sc_Lwords (fun vs H Q E h => ?_) (fun cdv A outer s H vs Q E hr h => ?_)) (by decide)
  · obtain ⟨rfl, _⟩ := h; rfl
  · obtain ⟨rfl, h⟩ := h
    have tk : Takes (cxOf (L2.CX P w) P w Z.K Z.mg base nm_Lwords "_law_words" (defScope st_Lwords) Z.f_Lwords cdv A outer s H E) (fun cls d _ H => E cls d H) := takes_of rfl rfl rfl rfl
    have po : PassesOwn (model P w) (cxOf (L2.CX P w) P w Z.K Z.mg base nm_Lwords "_law_words" (defScope st_Lwords) Z.f_Lwords cdv A outer s H E).A (cxOf (L2.CX P w) P w Z.K Z.mg base nm_Lwords "_law_words" (defScope st_Lwords) Z.f_Lwords cdv A outer s H E).env (cxOf (L2.CX P w) P w Z.K Z.mg base nm_Lwords "_law_words" (defScope st_Lwords) Z.f_Lwords cdv A outer s H E).xe := passes_of rfl
    refine ⟨t_Lwords Z (fun cls d _ H => E cls d H), ?_, rd_Lwords T h⟩
    exact (pss_cons (ps_set (i := 0) sc_Lwords.nd rfl (Or.inl rfl) (pe_lst (pa_cons pe_str (pa_cons pe_str (pa_cons pe_str (pa_cons pe_str (pa_cons pe_str (pa_cons pe_str (pa_cons pe_str (pa_cons pe_str (pa_cons pe_str (pa_cons pe_str (pa_cons pe_str (pa_cons pe_str (pa_cons pe_str (pa_cons pe_str pa_nil))))))))))))))))
      (pss_one (ps_ret (pe_op op_addU (pv 0) (pe_lst (pa_cons pe_str (pa_cons pe_str (pa_cons pe_str (pa_cons pe_str pa_nil)))))))))

theorem sc_Ltext : FnScope nm_Ltext ["_law_state"] (defScope st_Ltext) := ⟨rfl, rfl, rfl, by decide +kernel, rfl, by decide +kernel, by decide +kernel⟩
theorem ok_Ltext {P : Program} {w : World} {base : Heap} {Z : Adr} (T : Top Z) (G_Lwords : FnOk P w Z.K Z.mg base (L2.CX P w) 1 Z.f_Lwords Z.d_Lwords [] (sp_Lwords Z)) (G_Ltake : FnOk P w Z.K Z.mg base (L2.CX P w) 2 Z.f_Ltake Z.d_Ltake ["_law_state", "_law_many"] (sp_Ltake Z)) : FnOk P w Z.K Z.mg base (L2.CX P w) 3 Z.f_Ltext Z.d_Ltext ["_law_state"] (sp_Ltext Z) := by
  refine FnOk.mono (T.F_Ltext.okX (k := 2) sc_Ltext (fun vs H Q E h => ?_) (fun cdv A outer s H vs Q E hr h => ?_)) (by decide)
  · obtain ⟨a0, rfl, _⟩ := h; rfl
  · obtain ⟨a0, rfl, h⟩ := h
    have tk : Takes (cxOf (L2.CX P w) P w Z.K Z.mg base nm_Ltext "_law_text" (defScope st_Ltext) Z.f_Ltext cdv A outer s H E) (fun cls d _ H => E cls d H) := takes_of rfl rfl rfl rfl
    have po : PassesOwn (model P w) (cxOf (L2.CX P w) P w Z.K Z.mg base nm_Ltext "_law_text" (defScope st_Ltext) Z.f_Ltext cdv A outer s H E).A (cxOf (L2.CX P w) P w Z.K Z.mg base nm_Ltext "_law_text" (defScope st_Ltext) Z.f_Ltext cdv A outer s H E).env (cxOf (L2.CX P w) P w Z.K Z.mg base nm_Ltext "_law_text" (defScope st_Ltext) Z.f_Ltext cdv A outer s H E).xe := passes_of rfl
    refine ⟨t_Ltext Z (fun cls d _ H => E cls d H), ?_, rd_Ltext T h⟩
    exact (pss_cons (ps_set (i := 1) sc_Ltext.nd rfl (Or.inr rfl) pe_str)
      (pss_cons (ps_set (i := 2) sc_Ltext.nd rfl (Or.inl rfl) (pe_ix ix_seq (pe_call0Z G_Lwords (hr.mono (by decide)) rfl T.m_Lwords T.k_Lwords T.b_Lwords (fun σ => passAt tk σ)) (pe_callS G_Ltake (hr.mono (by decide)) rfl T.m_Ltake T.k_Ltake T.b_Ltake (fun σ => passAt tk σ) (pa_cons (pv 0) (pa_cons pe_int pa_nil))) (fun _ _ => rfl)))
      (pss_cons (ps_set (i := 3) sc_Ltext.nd rfl (Or.inl rfl) (pe_callS G_Ltake (hr.mono (by decide)) rfl T.m_Ltake T.k_Ltake T.b_Ltake (fun σ => passAt tk σ) (pa_cons (pv 0) (pa_cons (pe_op op_addU (pe_callB call_len' (by rfl) T.n_len (by decide +kernel) (pa_cons (pv 2) pa_nil)) pe_int) pa_nil))))
      (pss_cons (ps_set (i := 4) sc_Ltext.nd rfl (Or.inl rfl) (pe_ix ix_seq (pv 1) (pe_callS G_Ltake (hr.mono (by decide)) rfl T.m_Ltake T.k_Ltake T.b_Ltake (fun σ => passAt tk σ) (pa_cons (pv 0) (pa_cons (pe_callB call_len' (by rfl) T.n_len (by decide +kernel) (pa_cons (pv 1) pa_nil)) pa_nil))) (fun _ _ => rfl)))
      (pss_cons (ps_set (i := 5) sc_Ltext.nd rfl (Or.inl rfl) (pe_callS G_Ltake (hr.mono (by decide)) rfl T.m_Ltake T.k_Ltake T.b_Ltake (fun σ => passAt tk σ) (pa_cons (pv 0) (pa_cons pe_int pa_nil))))
      (pss_cons (ps_if (pt_cmpR (op_eqU (hr.units)) (pv 5) pe_int (nomark _)) (pss_one (ps_ret (pe_op op_addU (pe_op op_addU (pe_slice sl_str (pv 2) po_none (po_some (pv 3))) (pv 4)) (pe_slice sl_str (pv 2) (po_some (pv 3)) po_none)))) pss_nil)
      (pss_cons (ps_if (pt_cmpR (op_eqU (hr.units)) (pv 5) pe_int (nomark _)) (pss_one (ps_ret (pe_op op_addU (pe_slice sl_str (pv 2) po_none (po_some (pv 3))) (pe_slice sl_str (pv 2) (po_some (pe_op op_addU (pv 3) pe_int)) po_none)))) pss_nil)
      (pss_cons (ps_if (pt_cmpR (op_eqU (hr.units)) (pv 5) pe_int (nomark _)) (pss_one (ps_ret (pe_op op_addU (pe_op op_addU (pe_slice sl_str (pv 2) po_none (po_some (pv 3))) (pv 4)) (pe_slice sl_str (pv 2) (po_some (pe_op op_addU (pv 3) pe_int)) po_none)))) pss_nil)
      (pss_cons (ps_if (pt_cmpR (op_eqU (hr.units)) (pv 5) pe_int (nomark _)) (pss_one (ps_ret (pe_ix ix_seq (pe_lst (pa_cons pe_str (pa_cons pe_str (pa_cons pe_str (pa_cons pe_str (pa_cons pe_str (pa_cons pe_str (pa_cons pe_str (pa_cons pe_str (pa_cons pe_str (pa_cons pe_str pa_nil))))))))))) (pe_callS G_Ltake (hr.mono (by decide)) rfl T.m_Ltake T.k_Ltake T.b_Ltake (fun σ => passAt tk σ) (pa_cons (pv 0) (pa_cons pe_int pa_nil))) (fun _ _ => rfl)))) pss_nil)
      (pss_cons (ps_if (pt_cmpR (op_eqU (hr.units)) (pv 5) pe_int (nomark _)) (pss_one (ps_ret (pe_bm PySem.F.plainAttrs_str PySem.F.slot_str_join PySem.F.type_str_join mt_join pe_str (pa_cons (pe_lc (own := [(".0", 6), ("_law_k", 7)]) (g := (gName 7)) (tt := tYes) rfl sc_Ltext.nd (pi_range1 rfl T.n_range (pa_cons (pe_callS G_Ltake (hr.mono (by decide)) rfl T.m_Ltake T.k_Ltake T.b_Ltake (fun σ => passAt tk σ) (pa_cons (pv 0) (pa_cons pe_int pa_nil))) pa_nil)) (blkOk_by (own := [(".0", 6), ("_law_k", 7)]) (N := nm_Ltext) (sc := defScope st_Ltext) (by decide +kernel)) (fun _ _ _ _ _ => (pg_name (i := 7) sc_Ltext.nd rfl (Or.inl rfl))) (fun _ _ _ _ _ => pts_nil) (fun _ _ _ _ _ => (pe_ix ix_seq (pv 1) (pe_callS G_Ltake (hr.mono (by decide)) rfl T.m_Ltake T.k_Ltake T.b_Ltake passC (pa_cons (pv 0) (pa_cons pe_int pa_nil))) (fun _ _ => rfl)))) pa_nil)))) pss_nil)
      (pss_one (ps_ret (pv 2)))))))))))))

theorem sc_Lis : FnScope nm_Lis ["_law_found", "_law_due"] (defScope st_Lis) := ⟨rfl, rfl, rfl, by decide +kernel, rfl, by decide +kernel, by decide +kernel⟩
theorem ok_Lis {P : Program} {w : World} {base : Heap} {Z : Adr} (T : Top Z)  : FnOk P w Z.K Z.mg base (L2.CX P w) 1 Z.f_Lis Z.d_Lis ["_law_found", "_law_due"] (sp_Lis Z) := by
  refine FnOk.mono (T.F_Lis.okX (k := 0) sc_Lis (fun vs H Q E h => ?_) (fun cdv A outer s H vs Q E hr h => ?_)) (by decide)
  · obtain ⟨a0, a1, rfl, _⟩ := h; rfl
  · obtain ⟨a0, a1, rfl, h⟩ := h
    have tk : Takes (cxOf (L2.CX P w) P w Z.K Z.mg base nm_Lis "_law_is" (defScope st_Lis) Z.f_Lis cdv A outer s H E) (fun cls d _ H => E cls d H) := takes_of rfl rfl rfl rfl
    have po : PassesOwn (model P w) (cxOf (L2.CX P w) P w Z.K Z.mg base nm_Lis "_law_is" (defScope st_Lis) Z.f_Lis cdv A outer s H E).A (cxOf (L2.CX P w) P w Z.K Z.mg base nm_Lis "_law_is" (defScope st_Lis) Z.f_Lis cdv A outer s H E).env (cxOf (L2.CX P w) P w Z.K Z.mg base nm_Lis "_law_is" (defScope st_Lis) Z.f_Lis cdv A outer s H E).xe := passes_of rfl
    refine ⟨t_Lis Z (fun cls d _ H => E cls d H), ?_, rd_Lis T h⟩
    exact (pss_one (ps_ret (pe_and (pe_callB call_isi' (by rfl) T.n_isinstance (by decide +kernel) (pa_cons (pv 0) (pa_cons (pe_bltn (by rfl) T.n_int (by decide +kernel) rfl) pa_nil))) (pe_and (pe_not (pe_callB call_isi' (by rfl) T.n_isinstance (by decide +kernel) (pa_cons (pv 0) (pa_cons (pe_bltn (by rfl) T.n_bool (by decide +kernel) rfl) pa_nil)))) (pe_one (pe_cmpR (op_eqU (hr.units)) (pv 0) (pv 1) (nomark _)))))))

theorem sc_law : FnScope nm_law ["_law_script"] (defScope st_law) := ⟨rfl, rfl, rfl, by decide +kernel, rfl, by decide +kernel, by decide +kernel⟩
theorem ok_law {P : Program} {w : World} {base : Heap} {Z : Adr} (T : Top Z) (G_Lwords : FnOk P w Z.K Z.mg base (L2.CX P w) 1 Z.f_Lwords Z.d_Lwords [] (sp_Lwords Z)) (G_word_of : FnOk P w Z.K Z.mg base (L2.CX P w) 1 Z.f_word_of Z.d_word_of ["kind"] (sp_word_of Z)) (G_Lis : FnOk P w Z.K Z.mg base (L2.CX P w) 1 Z.f_Lis Z.d_Lis ["_law_found", "_law_due"] (sp_Lis Z)) (G_kind_of : FnOk P w Z.K Z.mg base (L2.CX P w) 2 Z.f_kind_of Z.d_kind_of ["word"] (sp_kind_of Z)) (G_parts_of : FnOk P w Z.K Z.mg base (L2.CX P w) 1 Z.f_parts_of Z.d_parts_of ["kind"] (sp_parts_of Z)) (G_Ltext : FnOk P w Z.K Z.mg base (L2.CX P w) 3 Z.f_Ltext Z.d_Ltext ["_law_state"] (sp_Ltext Z)) : FnOk P w Z.K Z.mg base (L2.CX P w) 4 Z.f_law Z.d_law ["_law_script"] (sp_law Z) := by
  refine FnOk.mono (T.F_law.okX (k := 3) sc_law (fun vs H Q E h => ?_) (fun cdv A outer s H vs Q E hr h => ?_)) (by decide)
  · obtain ⟨a0, rfl, _⟩ := h; rfl
  · obtain ⟨a0, rfl, h⟩ := h
    have tk : Takes (cxOf (L2.CX P w) P w Z.K Z.mg base nm_law "law" (defScope st_law) Z.f_law cdv A outer s H E) (fun cls d _ H => E cls d H) := takes_of rfl rfl rfl rfl
    have po : PassesOwn (model P w) (cxOf (L2.CX P w) P w Z.K Z.mg base nm_law "law" (defScope st_law) Z.f_law cdv A outer s H E).A (cxOf (L2.CX P w) P w Z.K Z.mg base nm_law "law" (defScope st_law) Z.f_law cdv A outer s H E).env (cxOf (L2.CX P w) P w Z.K Z.mg base nm_law "law" (defScope st_law) Z.f_law cdv A outer s H E).xe := passes_of rfl
    refine ⟨t_law Z (fun cls d _ H => E cls d H), ?_, rd_law T h⟩
    exact (pss_cons (ps_set (i := 1) sc_law.nd rfl (Or.inl rfl) (pe_lst (pa_cons (pv 0) (pa_cons pe_int (pa_cons pe_int pa_nil)))))
      (pss_cons (ps_set (i := 2) sc_law.nd rfl (Or.inl rfl) (pe_call0Z G_Lwords (hr.mono (by decide)) rfl T.m_Lwords T.k_Lwords T.b_Lwords (fun σ => passAt tk σ)))
      (pss_cons (ps_for po rfl (pi_range1 rfl T.n_range (pa_cons pe_int pa_nil)) (pg_name (i := 3) sc_law.nd rfl (Or.inl rfl)) (pss_cons (ps_set (i := 4) sc_law.nd rfl (Or.inl rfl) (pe_callS G_word_of (hr.mono (by decide)) rfl T.m_word_of T.k_word_of T.b_word_of (fun σ => passAt tk σ) (pa_cons (pe_op op_addU pe_int (pv 3)) pa_nil)))
      (pss_one (ps_if (PW.pt (pw_or (pt_not (pt_val (pe_callB call_isi' (by rfl) T.n_isinstance (by decide +kernel) (pa_cons (pv 4) (pa_cons (pe_bltn (by rfl) T.n_str (by decide +kernel) rfl) pa_nil))))) (pw_or (pt_cmpR (op_neU (hr.units)) (pv 4) (pe_ix ix_seq (pv 2) (pv 3) (fun _ _ => rfl)) (nomark _)) (pw_or1 (pt_not (pt_val (pe_callS G_Lis (hr.mono (by decide)) rfl T.m_Lis T.k_Lis T.b_Lis (fun σ => passAt tk σ) (pa_cons (pe_callS G_kind_of (hr.mono (by decide)) rfl T.m_kind_of T.k_kind_of T.b_kind_of (fun σ => passAt tk σ) (pa_cons (pe_ix ix_seq (pv 2) (pv 3) (fun _ _ => rfl)) pa_nil)) (pa_cons (pe_op op_addU pe_int (pv 3)) pa_nil))))))))) (pss_one (ps_ret pe_bl)) pss_nil))))
      (pss_cons (ps_set (i := 5) sc_law.nd rfl (Or.inr rfl) (pe_lst (pa_cons pe_int (pa_cons pe_int (pa_cons pe_int (pa_cons pe_int (pa_cons pe_int (pa_cons pe_int (pa_cons pe_int (pa_cons pe_int (pa_cons pe_int (pa_cons pe_int (pa_cons pe_int (pa_cons pe_int (pa_cons pe_int pa_nil)))))))))))))))
      (pss_cons (ps_if (pt_cmpR op_gt (pe_callB call_len' (by rfl) T.n_len (by decide +kernel) (pa_cons (pe_lc (own := [(".0", 8), ("_law_k", 3)]) (g := (gName 3)) (tt := (tNot (tB (tCallS (sp_Lis Z) (WE fun _ _ _ _ => False) (tCons (tCallS (sp_parts_of Z) (WE fun _ _ _ _ => False) (tCons (tOp (rAddU Z.K) (tC (.int 7)) (tVar 3)) tNil)) (tCons (tOp (rIx Z.K) (tVar 5) (tVar 3)) tNil)))))) rfl sc_law.nd (pi_range1 rfl T.n_range (pa_cons pe_int pa_nil)) (blkOk_by (own := [(".0", 8), ("_law_k", 3)]) (N := nm_law) (sc := defScope st_law) (by decide +kernel)) (fun _ _ _ _ _ => (pg_name (i := 3) sc_law.nd rfl (Or.inl rfl))) (fun _ _ _ _ _ => (pts_one (pt_not (pt_val (pe_callS G_Lis (hr.mono (by decide)) rfl T.m_Lis T.k_Lis T.b_Lis passC (pa_cons (pe_callS G_parts_of (hr.mono (by decide)) rfl T.m_parts_of T.k_parts_of T.b_parts_of passC (pa_cons (pe_op op_addU pe_int (pv 3)) pa_nil)) (pa_cons (pe_ix ix_seq (pv 5) (pv 3) (fun _ _ => rfl)) pa_nil))))))) (fun _ _ _ _ _ => (pv 3))) pa_nil)) pe_int (nomark _)) (pss_one (ps_ret pe_bl)) pss_nil)
      (pss_cons (ps_for po rfl (pi_range1 rfl T.n_range (pa_cons pe_int pa_nil)) (pg_name (i := 6) sc_law.nd rfl (Or.inl rfl)) (pss_cons (ps_set (i := 7) sc_law.nd rfl (Or.inl rfl) (pe_callS G_Ltext (hr.mono (by decide)) rfl T.m_Ltext T.k_Ltext T.b_Ltext (fun σ => passAt tk σ) (pa_cons (pv 1) pa_nil)))
      (pss_cons (ps_set (i := 4) sc_law.nd rfl (Or.inl rfl) (pe_callS G_kind_of (hr.mono (by decide)) rfl T.m_kind_of T.k_kind_of T.b_kind_of (fun σ => passAt tk σ) (pa_cons (pv 7) pa_nil)))
      (pss_one (ps_if (pt_cmpR op_in_seq (pv 7) (pv 2) (by rfl)) (pss_one (ps_if (pt_not (pt_val (pe_callS G_Lis (hr.mono (by decide)) rfl T.m_Lis T.k_Lis T.b_Lis (fun σ => passAt tk σ) (pa_cons (pv 4) (pa_cons (pe_op op_addU pe_int (pe_bm PySem.F.plainAttrs_list PySem.F.slot_list_index PySem.F.type_list_index mt_index (pv 2) (pa_cons (pv 7) pa_nil))) pa_nil))))) (pss_one (ps_ret pe_bl)) pss_nil)) (pss_one (ps_if (pt_cmpR op_notNz (pv 4) pe_non (nomark _)) (pss_one (ps_ret pe_bl)) pss_nil)))))))
      (pss_one (ps_ret pe_bl))))))))

def sp_goal (K : PySem.W.Frag) : Sp := fun vs H Q _ => ∃ (a : Addr) (ns : List Int), vs = [.ref a] ∧ Only H ∧ Scr K H a ns ∧ ns.length ≤ 63 ∧ ∀ H', Q (.bl true) H'
theorem goal_law (Z : Adr) {vs : List V} {H : Hp} {Q : VK} {E : XK} (h : sp_goal Z.K vs H Q E) : sp_law Z vs H Q E := by
  obtain ⟨a, ns, rfl, h⟩ := h
  exact ⟨_, rfl, a, ns, rfl, h⟩
/-! ### the top, and the law's own head -/
theorem all_mk {l : PySem.W.OpenLaw} {w : World} {K : PySem.W.Frag} {h : Heap} {mg : Str → Option Value} {fa : Addr} (X : K.In h) (G : h.Ns mainGlobals mg) (hfa : mg "law" = some (.ref fa))
    {tk_SET : Tok}
    {tk_FAIL : Tok}
    {tk_PUT : Tok}
    {tk_SIZE : Tok}
    {tk_NEW : Tok}
    {a_EARLY : Addr} {tk_EARLY_0 tk_EARLY_1 tk_EARLY_2 tk_EARLY_3 tk_EARLY_4 tk_EARLY_5 tk_EARLY_6 tk_EARLY_7 tk_EARLY_8 : Tok} {od_EARLY : Option Addr} {nn_EARLY : Nat} {sl_EARLY : Array (Option Value)}
    {a_LATE : Addr} {tk_LATE_0 tk_LATE_1 tk_LATE_2 tk_LATE_3 tk_LATE_4 tk_LATE_5 tk_LATE_6 tk_LATE_7 tk_LATE_8 : Tok} {od_LATE : Option Addr} {nn_LATE : Nat} {sl_LATE : Array (Option Value)}
    {oc_word_of kV_word_of dc_word_of pm_word_of cd_word_of ct_word_of : Value} {od_word_of an_word_of : Option Addr} {sl_word_of : Array (Option Value)} {f_word_of : Addr}
    {oc_kind_of kV_kind_of dc_kind_of pm_kind_of cd_kind_of ct_kind_of : Value} {od_kind_of an_kind_of : Option Addr} {sl_kind_of : Array (Option Value)} {f_kind_of : Addr}
    {oc_parts_of kV_parts_of dc_parts_of pm_parts_of cd_parts_of ct_parts_of : Value} {od_parts_of an_parts_of : Option Addr} {sl_parts_of : Array (Option Value)} {f_parts_of : Addr}
    {oc_Lmixed kV_Lmixed dc_Lmixed pm_Lmixed cd_Lmixed ct_Lmixed : Value} {od_Lmixed an_Lmixed : Option Addr} {sl_Lmixed : Array (Option Value)} {f_Lmixed : Addr}
    {oc_Ltake kV_Ltake dc_Ltake pm_Ltake cd_Ltake ct_Ltake : Value} {od_Ltake an_Ltake : Option Addr} {sl_Ltake : Array (Option Value)} {f_Ltake : Addr}
    {oc_Lwords kV_Lwords dc_Lwords pm_Lwords cd_Lwords ct_Lwords : Value} {od_Lwords an_Lwords : Option Addr} {sl_Lwords : Array (Option Value)} {f_Lwords : Addr}
    {oc_Ltext kV_Ltext dc_Ltext pm_Ltext cd_Ltext ct_Ltext : Value} {od_Ltext an_Ltext : Option Addr} {sl_Ltext : Array (Option Value)} {f_Ltext : Addr}
    {oc_Lis kV_Lis dc_Lis pm_Lis cd_Lis ct_Lis : Value} {od_Lis an_Lis : Option Addr} {sl_Lis : Array (Option Value)} {f_Lis : Addr}
    {oc_law kV_law dc_law pm_law cd_law ct_law : Value} {od_law an_law : Option Addr} {sl_law : Array (Option Value)} {f_law : Addr}
    (i_SET : PySem.W.nsIn K mainGlobals "SET" = some (some (.int 2 tk_SET)))
    (i_FAIL : PySem.W.nsIn K mainGlobals "FAIL" = some (some (.int 7 tk_FAIL)))
    (i_PUT : PySem.W.nsIn K mainGlobals "PUT" = some (some (.int 17 tk_PUT)))
    (i_SIZE : PySem.W.nsIn K mainGlobals "SIZE" = some (some (.int 18 tk_SIZE)))
    (i_NEW : PySem.W.nsIn K mainGlobals "NEW" = some (some (.int 19 tk_NEW)))
    (i_EARLY : PySem.W.nsIn K mainGlobals "EARLY" = some (some (.ref a_EARLY)))
    (l_EARLY : K.lookup a_EARLY = some ⟨.type "tuple", od_EARLY, .seq #[.str "set" tk_EARLY_0, .str "all" tk_EARLY_1, .str "pick" tk_EARLY_2, .str "loop" tk_EARLY_3, .str "call" tk_EARLY_4, .str "fail" tk_EARLY_5, .str "add" tk_EARLY_6, .str "sub" tk_EARLY_7, .str "mul" tk_EARLY_8] nn_EARLY, sl_EARLY⟩)
    (i_LATE : PySem.W.nsIn K mainGlobals "LATE" = some (some (.ref a_LATE)))
    (l_LATE : K.lookup a_LATE = some ⟨.type "tuple", od_LATE, .seq #[.str "quo" tk_LATE_0, .str "rest" tk_LATE_1, .str "less" tk_LATE_2, .str "same" tk_LATE_3, .str "push" tk_LATE_4, .str "at" tk_LATE_5, .str "put" tk_LATE_6, .str "size" tk_LATE_7, .str "new" tk_LATE_8] nn_LATE, sl_LATE⟩)
    (z_abs : PySem.W.nsIn K mainGlobals "abs" = some none)
    (z_bool : PySem.W.nsIn K mainGlobals "bool" = some none)
    (z_int : PySem.W.nsIn K mainGlobals "int" = some none)
    (z_isinstance : PySem.W.nsIn K mainGlobals "isinstance" = some none)
    (z_len : PySem.W.nsIn K mainGlobals "len" = some none)
    (z_range : PySem.W.nsIn K mainGlobals "range" = some none)
    (z_str : PySem.W.nsIn K mainGlobals "str" = some none)
    (a_word_of : PySem.W.nsIn K mainGlobals "word_of" = some (some (.ref f_word_of)))
    (l_word_of : K.lookup f_word_of = some ⟨oc_word_of, od_word_of, .func (PySem.W.fnOf "word_of" "word_of" (defArgs st_word_of) (defBody st_word_of) (defScope st_word_of) .none kV_word_of dc_word_of pm_word_of an_word_of cd_word_of ct_word_of), sl_word_of⟩)
    (c_word_of : PySem.W.codeIn K cd_word_of "word_of" = true)
    (k_word_of : PySem.W.keepIn K (.ref f_word_of) = true)
    (a_kind_of : PySem.W.nsIn K mainGlobals "kind_of" = some (some (.ref f_kind_of)))
    (l_kind_of : K.lookup f_kind_of = some ⟨oc_kind_of, od_kind_of, .func (PySem.W.fnOf "kind_of" "kind_of" (defArgs st_kind_of) (defBody st_kind_of) (defScope st_kind_of) .none kV_kind_of dc_kind_of pm_kind_of an_kind_of cd_kind_of ct_kind_of), sl_kind_of⟩)
    (c_kind_of : PySem.W.codeIn K cd_kind_of "kind_of" = true)
    (k_kind_of : PySem.W.keepIn K (.ref f_kind_of) = true)
    (a_parts_of : PySem.W.nsIn K mainGlobals "parts_of" = some (some (.ref f_parts_of)))
    (l_parts_of : K.lookup f_parts_of = some ⟨oc_parts_of, od_parts_of, .func (PySem.W.fnOf "parts_of" "parts_of" (defArgs st_parts_of) (defBody st_parts_of) (defScope st_parts_of) .none kV_parts_of dc_parts_of pm_parts_of an_parts_of cd_parts_of ct_parts_of), sl_parts_of⟩)
    (c_parts_of : PySem.W.codeIn K cd_parts_of "parts_of" = true)
    (k_parts_of : PySem.W.keepIn K (.ref f_parts_of) = true)
    (a_Lmixed : PySem.W.nsIn K mainGlobals "_law_mixed" = some (some (.ref f_Lmixed)))
    (l_Lmixed : K.lookup f_Lmixed = some ⟨oc_Lmixed, od_Lmixed, .func (PySem.W.fnOf "_law_mixed" "_law_mixed" (defArgs st_Lmixed) (defBody st_Lmixed) (defScope st_Lmixed) .none kV_Lmixed dc_Lmixed pm_Lmixed an_Lmixed cd_Lmixed ct_Lmixed), sl_Lmixed⟩)
    (c_Lmixed : PySem.W.codeIn K cd_Lmixed "_law_mixed" = true)
    (k_Lmixed : PySem.W.keepIn K (.ref f_Lmixed) = true)
    (a_Ltake : PySem.W.nsIn K mainGlobals "_law_take" = some (some (.ref f_Ltake)))
    (l_Ltake : K.lookup f_Ltake = some ⟨oc_Ltake, od_Ltake, .func (PySem.W.fnOf "_law_take" "_law_take" (defArgs st_Ltake) (defBody st_Ltake) (defScope st_Ltake) .none kV_Ltake dc_Ltake pm_Ltake an_Ltake cd_Ltake ct_Ltake), sl_Ltake⟩)
    (c_Ltake : PySem.W.codeIn K cd_Ltake "_law_take" = true)
    (k_Ltake : PySem.W.keepIn K (.ref f_Ltake) = true)
    (a_Lwords : PySem.W.nsIn K mainGlobals "_law_words" = some (some (.ref f_Lwords)))
    (l_Lwords : K.lookup f_Lwords = some ⟨oc_Lwords, od_Lwords, .func (PySem.W.fnOf "_law_words" "_law_words" (defArgs st_Lwords) (defBody st_Lwords) (defScope st_Lwords) .none kV_Lwords dc_Lwords pm_Lwords an_Lwords cd_Lwords ct_Lwords), sl_Lwords⟩)
    (c_Lwords : PySem.W.codeIn K cd_Lwords "_law_words" = true)
    (k_Lwords : PySem.W.keepIn K (.ref f_Lwords) = true)
    (a_Ltext : PySem.W.nsIn K mainGlobals "_law_text" = some (some (.ref f_Ltext)))
    (l_Ltext : K.lookup f_Ltext = some ⟨oc_Ltext, od_Ltext, .func (PySem.W.fnOf "_law_text" "_law_text" (defArgs st_Ltext) (defBody st_Ltext) (defScope st_Ltext) .none kV_Ltext dc_Ltext pm_Ltext an_Ltext cd_Ltext ct_Ltext), sl_Ltext⟩)
    (c_Ltext : PySem.W.codeIn K cd_Ltext "_law_text" = true)
    (k_Ltext : PySem.W.keepIn K (.ref f_Ltext) = true)
    (a_Lis : PySem.W.nsIn K mainGlobals "_law_is" = some (some (.ref f_Lis)))
    (l_Lis : K.lookup f_Lis = some ⟨oc_Lis, od_Lis, .func (PySem.W.fnOf "_law_is" "_law_is" (defArgs st_Lis) (defBody st_Lis) (defScope st_Lis) .none kV_Lis dc_Lis pm_Lis an_Lis cd_Lis ct_Lis), sl_Lis⟩)
    (c_Lis : PySem.W.codeIn K cd_Lis "_law_is" = true)
    (k_Lis : PySem.W.keepIn K (.ref f_Lis) = true)
    (a_law : PySem.W.nsIn K mainGlobals "law" = some (some (.ref f_law)))
    (l_law : K.lookup f_law = some ⟨oc_law, od_law, .func (PySem.W.fnOf "law" "law" (defArgs st_law) (defBody st_law) (defScope st_law) .none kV_law dc_law pm_law an_law cd_law ct_law), sl_law⟩)
    (c_law : PySem.W.codeIn K cd_law "law" = true)
    (k_law : PySem.W.keepIn K (.ref f_law) = true) :
    ∃ fd : FuncData, (∀ (s : Shared) (v : Value), BindsTo s fd ⟨[v], []⟩ [("_law_script", v)]) ∧ ∀ base : Heap, K.In base → base.Ns mainGlobals mg → ∃ Z : Adr, Z.K = K ∧ FnOk l.prog w K mg base (L2.CX l.prog w) 4 fa fd ["_law_script"] (sp_law Z) := by
  have e := hfa.symm.trans (PySem.W.mg_of X G a_law)
  cases e
  let Z : Adr := {
      K := K
      mg := mg
      t_SET := tk_SET
      t_FAIL := tk_FAIL
      t_PUT := tk_PUT
      t_SIZE := tk_SIZE
      t_NEW := tk_NEW
      a_EARLY := a_EARLY
      a_LATE := a_LATE
      f_word_of := f_word_of
      d_word_of := PySem.W.fnOf "word_of" "word_of" (defArgs st_word_of) (defBody st_word_of) (defScope st_word_of) .none kV_word_of dc_word_of pm_word_of an_word_of cd_word_of ct_word_of
      f_kind_of := f_kind_of
      d_kind_of := PySem.W.fnOf "kind_of" "kind_of" (defArgs st_kind_of) (defBody st_kind_of) (defScope st_kind_of) .none kV_kind_of dc_kind_of pm_kind_of an_kind_of cd_kind_of ct_kind_of
      f_parts_of := f_parts_of
      d_parts_of := PySem.W.fnOf "parts_of" "parts_of" (defArgs st_parts_of) (defBody st_parts_of) (defScope st_parts_of) .none kV_parts_of dc_parts_of pm_parts_of an_parts_of cd_parts_of ct_parts_of
      f_Lmixed := f_Lmixed
      d_Lmixed := PySem.W.fnOf "_law_mixed" "_law_mixed" (defArgs st_Lmixed) (defBody st_Lmixed) (defScope st_Lmixed) .none kV_Lmixed dc_Lmixed pm_Lmixed an_Lmixed cd_Lmixed ct_Lmixed
      f_Ltake := f_Ltake
      d_Ltake := PySem.W.fnOf "_law_take" "_law_take" (defArgs st_Ltake) (defBody st_Ltake) (defScope st_Ltake) .none kV_Ltake dc_Ltake pm_Ltake an_Ltake cd_Ltake ct_Ltake
      f_Lwords := f_Lwords
      d_Lwords := PySem.W.fnOf "_law_words" "_law_words" (defArgs st_Lwords) (defBody st_Lwords) (defScope st_Lwords) .none kV_Lwords dc_Lwords pm_Lwords an_Lwords cd_Lwords ct_Lwords
      f_Ltext := f_Ltext
      d_Ltext := PySem.W.fnOf "_law_text" "_law_text" (defArgs st_Ltext) (defBody st_Ltext) (defScope st_Ltext) .none kV_Ltext dc_Ltext pm_Ltext an_Ltext cd_Ltext ct_Ltext
      f_Lis := f_Lis
      d_Lis := PySem.W.fnOf "_law_is" "_law_is" (defArgs st_Lis) (defBody st_Lis) (defScope st_Lis) .none kV_Lis dc_Lis pm_Lis an_Lis cd_Lis ct_Lis
      f_law := fa
      d_law := PySem.W.fnOf "law" "law" (defArgs st_law) (defBody st_law) (defScope st_law) .none kV_law dc_law pm_law an_law cd_law ct_law }
  have T : Top Z := {
      g_SET := PySem.W.mg_of X G i_SET
      g_FAIL := PySem.W.mg_of X G i_FAIL
      g_PUT := PySem.W.mg_of X G i_PUT
      g_SIZE := PySem.W.mg_of X G i_SIZE
      g_NEW := PySem.W.mg_of X G i_NEW
      g_EARLY := PySem.W.mg_of X G i_EARLY
      s_EARLY := fun H => _root_.Z.sqT_mk l_EARLY (by show 9 ≤ 1000; omega) (.cons ⟨_, rfl⟩ (.cons ⟨_, rfl⟩ (.cons ⟨_, rfl⟩ (.cons ⟨_, rfl⟩ (.cons ⟨_, rfl⟩ (.cons ⟨_, rfl⟩ (.cons ⟨_, rfl⟩ (.cons ⟨_, rfl⟩ (.cons ⟨_, rfl⟩ (.nil))))))))))
      g_LATE := PySem.W.mg_of X G i_LATE
      s_LATE := fun H => _root_.Z.sqT_mk l_LATE (by show 9 ≤ 1000; omega) (.cons ⟨_, rfl⟩ (.cons ⟨_, rfl⟩ (.cons ⟨_, rfl⟩ (.cons ⟨_, rfl⟩ (.cons ⟨_, rfl⟩ (.cons ⟨_, rfl⟩ (.cons ⟨_, rfl⟩ (.cons ⟨_, rfl⟩ (.cons ⟨_, rfl⟩ (.nil))))))))))
      n_abs := PySem.W.mg_none_of X G z_abs
      n_bool := PySem.W.mg_none_of X G z_bool
      n_int := PySem.W.mg_none_of X G z_int
      n_isinstance := PySem.W.mg_none_of X G z_isinstance
      n_len := PySem.W.mg_none_of X G z_len
      n_range := PySem.W.mg_none_of X G z_range
      n_str := PySem.W.mg_none_of X G z_str
      m_word_of := PySem.W.mg_of X G a_word_of
      F_word_of := fun_mk (st := st_word_of) l_word_of c_word_of k_word_of
      b_word_of := (fun_mk (st := st_word_of) l_word_of c_word_of k_word_of).binds (ps := ["kind"]) fun _ _ _ _ _ _ us hl => match us, hl with | [_], _ => rfl
      m_kind_of := PySem.W.mg_of X G a_kind_of
      F_kind_of := fun_mk (st := st_kind_of) l_kind_of c_kind_of k_kind_of
      b_kind_of := (fun_mk (st := st_kind_of) l_kind_of c_kind_of k_kind_of).binds (ps := ["word"]) fun _ _ _ _ _ _ us hl => match us, hl with | [_], _ => rfl
      m_parts_of := PySem.W.mg_of X G a_parts_of
      F_parts_of := fun_mk (st := st_parts_of) l_parts_of c_parts_of k_parts_of
      b_parts_of := (fun_mk (st := st_parts_of) l_parts_of c_parts_of k_parts_of).binds (ps := ["kind"]) fun _ _ _ _ _ _ us hl => match us, hl with | [_], _ => rfl
      m_Lmixed := PySem.W.mg_of X G a_Lmixed
      F_Lmixed := fun_mk (st := st_Lmixed) l_Lmixed c_Lmixed k_Lmixed
      b_Lmixed := (fun_mk (st := st_Lmixed) l_Lmixed c_Lmixed k_Lmixed).binds (ps := ["_law_cell", "_law_k"]) fun _ _ _ _ _ _ us hl => match us, hl with | [_, _], _ => rfl
      m_Ltake := PySem.W.mg_of X G a_Ltake
      F_Ltake := fun_mk (st := st_Ltake) l_Ltake c_Ltake k_Ltake
      b_Ltake := (fun_mk (st := st_Ltake) l_Ltake c_Ltake k_Ltake).binds (ps := ["_law_state", "_law_many"]) fun _ _ _ _ _ _ us hl => match us, hl with | [_, _], _ => rfl
      m_Lwords := PySem.W.mg_of X G a_Lwords
      F_Lwords := fun_mk (st := st_Lwords) l_Lwords c_Lwords k_Lwords
      b_Lwords := (fun_mk (st := st_Lwords) l_Lwords c_Lwords k_Lwords).binds (ps := []) fun _ _ _ _ _ _ us hl => match us, hl with | [], _ => rfl
      m_Ltext := PySem.W.mg_of X G a_Ltext
      F_Ltext := fun_mk (st := st_Ltext) l_Ltext c_Ltext k_Ltext
      b_Ltext := (fun_mk (st := st_Ltext) l_Ltext c_Ltext k_Ltext).binds (ps := ["_law_state"]) fun _ _ _ _ _ _ us hl => match us, hl with | [_], _ => rfl
      m_Lis := PySem.W.mg_of X G a_Lis
      F_Lis := fun_mk (st := st_Lis) l_Lis c_Lis k_Lis
      b_Lis := (fun_mk (st := st_Lis) l_Lis c_Lis k_Lis).binds (ps := ["_law_found", "_law_due"]) fun _ _ _ _ _ _ us hl => match us, hl with | [_, _], _ => rfl
      m_law := PySem.W.mg_of X G a_law
      F_law := fun_mk (st := st_law) l_law c_law k_law
      b_law := (fun_mk (st := st_law) l_law c_law k_law).binds (ps := ["_law_script"]) fun _ _ _ _ _ _ us hl => match us, hl with | [_], _ => rfl }
  refine ⟨Z.d_law, fun s v => .of_eq rfl, fun base _ _ => ⟨Z, rfl, ?_⟩⟩
  have G_Lwords := ok_Lwords (P := l.prog) (w := w) (base := base) T 
  have G_word_of := ok_word_of (P := l.prog) (w := w) (base := base) T 
  have G_Lis := ok_Lis (P := l.prog) (w := w) (base := base) T 
  have G_kind_of := ok_kind_of (P := l.prog) (w := w) (base := base) T G_word_of
  have G_parts_of := ok_parts_of (P := l.prog) (w := w) (base := base) T 
  have G_Lmixed := ok_Lmixed (P := l.prog) (w := w) (base := base) T 
  have G_Ltake := ok_Ltake (P := l.prog) (w := w) (base := base) T G_Lmixed
  have G_Ltext := ok_Ltext (P := l.prog) (w := w) (base := base) T G_Lwords G_Ltake
  have G_law := ok_law (P := l.prog) (w := w) (base := base) T G_Lwords G_word_of G_Lis G_kind_of G_parts_of G_Ltext
  exact G_law
theorem walk {l : PySem.W.OpenLaw} {q : Program} {loose : List Str} {XP : (Str → Option Value) → Heap → Prop} {YP : World → Heap → Prop} {d : DefRec} {K : Params → PySem.W.Frag} (hn : l.most = some 63) (hdf : d.params.defaults = [])
    (hY : ∀ (w : World) (h : Heap), YP w h → (K w.params).In h)
    (F : ∀ (w : World) (mg : Str → Option Value) (fa : Addr) (h : Heap), (K w.params).In h → h.Ns mainGlobals mg → mg d.name = some (.ref fa) →
      ∃ fd : FuncData, (∀ (s : Shared) (u : Value), BindsTo s fd ⟨[u], []⟩ [("_law_script", u)]) ∧ ∀ base : Heap, (K w.params).In base → base.Ns mainGlobals mg → ∃ Z : Adr, Z.K = K w.params ∧ FnOk l.prog w (K w.params) mg base (L2.CX l.prog w) 4 fa fd ["_law_script"] (sp_law Z)) :
    PySem.W.WalkO q loose XP YP l.row.toRowW d [] (fun f vs => PySem.call f vs) :=
  L2.walk_of (n := 63) (k := 4) (x := "_law_script") (CX := fun w => L2.CX l.prog w) (sp := fun w => sp_goal (K w.params)) hn (by decide) hdf ⟨rfl, by decide, by decide⟩ hY
    (fun w mg fa h a b c => by
      obtain ⟨fd, hb, z⟩ := F w mg fa h a b c
      refine ⟨fd, hb, fun base e f => ?_⟩
      obtain ⟨Z, hZ, g⟩ := z base e f
      exact g.imp fun vs H Q E q => goal_law Z (hZ ▸ q))
    (fun w H a ns hl hO hS => ⟨a, ns, rfl, hO, Scr.of hO hS, hl, fun _ => rfl⟩) fun w H s e s' z => by
      obtain ⟨_, _, _, _, _, _, _, _, _, _, _, _, z⟩ := z
      exact z.elim
end My
open PySem PySem.W PyProof.Rows
set_option maxRecDepth 100000 in
set_option maxHeartbeats 0 in
theorem PySem.Challenge.cw_ownchain_k01_words_of_kinds_holds : PySem.Challenge.rw_ownchain_k01_words_of_kinds.Holds := by
  w_on; o_law; k_head; (case hw => w_witness2)
  k_fill
  refine My.walk (l := PySem.Challenge.rw_ownchain_k01_words_of_kinds) rfl rfl (fun w h Y => PySem.W.kIn_of Y) ?F
  case F =>
    intro w mg fa h KX G hmg
    refine' My.all_mk KX G hmg ?i_SET ?i_FAIL ?i_PUT ?i_SIZE ?i_NEW ?i_EARLY ?l_EARLY ?i_LATE ?l_LATE ?z_abs ?z_bool ?z_int ?z_isinstance ?z_len ?z_range ?z_str ?a_word_of ?l_word_of ?c_word_of ?k_word_of ?a_kind_of ?l_kind_of ?c_kind_of ?k_kind_of ?a_parts_of ?l_parts_of ?c_parts_of ?k_parts_of ?a_Lmixed ?l_Lmixed ?c_Lmixed ?k_Lmixed ?a_Ltake ?l_Ltake ?c_Ltake ?k_Ltake ?a_Lwords ?l_Lwords ?c_Lwords ?k_Lwords ?a_Ltext ?l_Ltext ?c_Ltext ?k_Ltext ?a_Lis ?l_Lis ?c_Lis ?k_Lis ?a_law ?l_law ?c_law ?k_law
    (case i_SET => k_is)
    (case i_FAIL => k_is)
    (case i_PUT => k_is)
    (case i_SIZE => k_is)
    (case i_NEW => k_is)
    (case i_EARLY => k_is)
    (case l_EARLY => k_is)
    (case i_LATE => k_is)
    (case l_LATE => k_is)
    (case z_abs => k_is)
    (case z_bool => k_is)
    (case z_int => k_is)
    (case z_isinstance => k_is)
    (case z_len => k_is)
    (case z_range => k_is)
    (case z_str => k_is)
    (case a_word_of => k_is)
    (case l_word_of => k_is)
    (case c_word_of => k_is)
    (case k_word_of => k_is)
    (case a_kind_of => k_is)
    (case l_kind_of => k_is)
    (case c_kind_of => k_is)
    (case k_kind_of => k_is)
    (case a_parts_of => k_is)
    (case l_parts_of => k_is)
    (case c_parts_of => k_is)
    (case k_parts_of => k_is)
    (case a_Lmixed => k_is)
    (case l_Lmixed => k_is)
    (case c_Lmixed => k_is)
    (case k_Lmixed => k_is)
    (case a_Ltake => k_is)
    (case l_Ltake => k_is)
    (case c_Ltake => k_is)
    (case k_Ltake => k_is)
    (case a_Lwords => k_is)
    (case l_Lwords => k_is)
    (case c_Lwords => k_is)
    (case k_Lwords => k_is)
    (case a_Ltext => k_is)
    (case l_Ltext => k_is)
    (case c_Ltext => k_is)
    (case k_Ltext => k_is)
    (case a_Lis => k_is)
    (case l_Lis => k_is)
    (case c_Lis => k_is)
    (case k_Lis => k_is)
    (case a_law => k_is)
    (case l_law => k_is)
    (case c_law => k_is)
    (case k_law => k_is)
