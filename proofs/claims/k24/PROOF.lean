import PyProof.Rows.All
import Wide.All
import OpenK.AllK
import Wide.FinOn
import HandS.ForMost
import HandS.ForExc
import HandS.IsInst
import HandS.Wide
import HandS.TryOnly
import HandS.Codes
import HandS.Style
import HandS.ExcInit
import HandS.ExcField
import HandS.TupAny
import HandS.Conv
import HandS.ExcIs
import KE.KExcIs
import PySem.Challenge.RW_ownchain_k24_what_is_no_code
set_option Elab.async false
set_option linter.all false
set_option maxRecDepth 100000
set_option maxHeartbeats 8000000
set_option Elab.async false
set_option linter.all false
set_option maxRecDepth 100000
set_option maxHeartbeats 4000000
/-! Step lemmas over the hand layer's readings: each goal of a reading is turned by one lemma. -/
namespace Z
open PySem PySem.Spec PyProof.Rows L2

abbrev kS (s : Str) : Key := Sum.inr s
abbrev kI (i : Int) : Key := Sum.inl i
/-! ### universal rules: by the values -/
section
variable {X : Cx}
def rFdv : R2 := rI (fun _ j => j ≠ 0 ∧ j.natAbs.log2 < 9000) fun i j => .int (i.fdiv j)
theorem op_fdv : OpR X (binaryOp .FloorDiv) rFdv := opI fun i j _ _ _ _ _ hc q => floordiv_int hc.1 q (.inl (PyProof.noPylong_of_log2 hc.2))
def rMod : R2 := rI (fun _ j => j ≠ 0) fun i j => .int (i.fmod j)
theorem op_md : OpR X (binaryOp .Mod) rMod := op_modN
def rMul : R2 := rI (fun i j => CMul i j ∨ CMulW i j) fun i j => .int (i * j)
theorem op_ml : OpR X (binaryOp .Mult) rMul := opI fun _ _ _ _ _ _ _ hc q => mul_int q (hc.elim CMul.ok CMulW.ok)
def rAddI : R2 := rI0 fun i j => .int (i + j)
def rAddS : R2 := fun x y H Q => ∃ i j, x = .str i ∧ y = .str j ∧ i.length + j.length ≤ sizeLine ∧ Q (.str (i ++ j)) H
def rAddU (K : PySem.W.Frag) : R2 := fun x y H Q => rAddI x y H Q ∨ rAddS x y H Q ∨ rCat x y H Q ∨ rCatA K x y H Q
theorem op_addU : OpR X (binaryOp .Add) (rAddU X.K) := OpR.or op_add (OpR.or op_add_str (OpR.or op_cat op_catA))
def rLenE (b : Bool) : R2 := fun x y H Q => ∃ p q xs ys, x = .ref p ∧ y = .ref q ∧ H p = some (.lst xs) ∧ H q = some (.lst ys) ∧ xs.length ≠ ys.length ∧ Q (.bl b) H
theorem lens_of {pins : List (Addr × Obj)} {σ : L2.St} {H : Hp} {s : Shared} {p q : Addr} {xs ys : List V} (I : Inv X pins σ H s) (h1 : H p = some (.lst xs)) (h2 : H q = some (.lst ys)) (hn : xs.length ≠ ys.length) :
    ∃ i1 i2 : Array Value, s.heap.IsList p i1 ∧ s.heap.IsList q i2 ∧ (i1.size != i2.size) = true := by
  obtain ⟨_, a, n, _, la, ea⟩ := I.lstM h1
  obtain ⟨_, b, m, _, lb, eb⟩ := I.lstM h2
  refine ⟨a.toArray, b.toArray, ⟨_, ea, rfl, n, rfl⟩, ⟨_, eb, rfl, m, rfl⟩, ?_⟩
  rw [List.size_toArray, List.size_toArray, ← la, ← lb]
  simpa using hn
theorem op_eqLen (hu : X.A.units + 64 < cLine) : OpR X (compareOp .Eq) (rLenE false) := fun pins s σ H x y v u Q I rx ry h => by
  obtain ⟨p, q, xs, ys, rfl, rfl, h1, h2, hn, k⟩ := h
  obtain rfl : v = Value.ref p := rx
  obtain rfl : u = Value.ref q := ry
  obtain ⟨i1, i2, a, b, c⟩ := lens_of I h1 h2 hn
  exact PySem.SeqAt.RcAt.lists_lengths a b c (by omega) X.prog X.w X.xe _ ⟨.bl false, H, I, rfl, k⟩
theorem op_neLen (hu : X.A.units + 64 < cLine) : OpR X (compareOp .NotEq) (rLenE true) := fun pins s σ H x y v u Q I rx ry h => by
  obtain ⟨p, q, xs, ys, rfl, rfl, h1, h2, hn, k⟩ := h
  obtain rfl : v = Value.ref p := rx
  obtain rfl : u = Value.ref q := ry
  obtain ⟨i1, i2, a, b, c⟩ := lens_of I h1 h2 hn
  exact PySem.SeqAt.RcNeAt.lists_lengths a b c (by omega) X.prog X.w X.xe _ ⟨.bl true, H, I, rfl, k⟩
def rEqU (K : PySem.W.Frag) : R2 := fun x y H Q => rEq x y H Q ∨ rEqD K x y H Q ∨ rLenE false x y H Q
theorem op_eqU (hu : X.A.units + 64 < cLine) : OpR X (compareOp .Eq) (rEqU X.K) := OpR.or op_eq (OpR.or (op_eqD hu) (op_eqLen hu))
def rNeU (K : PySem.W.Frag) : R2 := fun x y H Q => rNe x y H Q ∨ rNeD K x y H Q ∨ rLenE true x y H Q
theorem op_neU (hu : X.A.units + 64 < cLine) : OpR X (compareOp .NotEq) (rNeU X.K) := OpR.or op_ne (OpR.or (op_neD hu) (op_neLen hu))
def rSlU (K : PySem.W.Frag) : V → Option Int → Option Int → Hp → VK → Prop := fun x lo hi H Q => rSlL K x lo hi H Q ∨ rSlA K x lo hi H Q
theorem sl_U : SlR X (rSlU X.K) := SlR.or sl_list sl_tupA
def rLen (K : PySem.W.Frag) : List V → Hp → VK → Prop := fun xs H Q => ∃ x n, xs = [x] ∧ LenV K x H n ∧ Q (.int (n : Nat)) H
theorem call_len' : CallR X (.builtin "len") (rLen X.K) := call_len
theorem pe_powc {b n z : Int} {k k' : Nat} {p p' pos : Pos} (hc : CPow b n) (h : b ^ n.toNat = z) : PE X (.BinOp (.Constant (.int b) k p) .Pow (.Constant (.int n) k' p') pos) (tC (.int z)) :=
  ⟨fun pins s σ H Q I q => (pe_op op_pow pe_int pe_int).run pins s σ H Q I ⟨b, n, rfl, rfl, hc, by show Q (.int (b ^ n.toNat)) H; rw [h]; exact q⟩⟩
def rMin2 : List V → Hp → VK → Prop := fun xs H Q => ∃ i j, xs = [.int i, .int j] ∧ Q (.int (if j < i then j else i)) H
theorem call_min' (hc : X.calm = true) : CallR X (.builtin "min") rMin2 := call_min2 hc
def rMax2 : List V → Hp → VK → Prop := fun xs H Q => ∃ i j, xs = [.int i, .int j] ∧ Q (.int (if j > i then j else i)) H
theorem call_max' (hc : X.calm = true) : CallR X (.builtin "max") rMax2 := call_max2 hc
def rListOf (K : PySem.W.Frag) : List V → Hp → VK → Prop := fun xs H Q => ∃ p ys, xs = [.ref p] ∧ (SqL K H p ys ∨ SqT K H p ys) ∧ ∀ l, H l = none → Q (.ref l) (upd H l (.lst ys))
theorem call_list' : CallR X (.type "list") (rListOf X.K) := call_list_of
def rTupOf (K : PySem.W.Frag) : List V → Hp → VK → Prop := fun xs H Q => ∃ p ys, xs = [.ref p] ∧ ((SqL K H p ys ∧ ∀ l, H l = none → Q (.ref l) (upd H l (.tup ys))) ∨ (SqT K H p ys ∧ Q (.ref p) H))
theorem call_tuple' : CallR X (.type "tuple") (rTupOf X.K) := call_tuple_of
def rInt1 : List V → Hp → VK → Prop := fun xs H Q => (∃ i, xs = [.int i] ∧ Q (.int i) H) ∨ ∃ k, xs = [.bl k] ∧ Q (.int (if k then 1 else 0)) H
theorem call_int' : CallR X (.type "int") rInt1 := call_int1
def rAbs : List V → Hp → VK → Prop := fun xs H Q => ∃ i, xs = [.int i] ∧ Q (.int (if i < 0 then -i else i)) H
theorem call_abs' : CallR X (.builtin "abs") rAbs := call_abs
def rStrI : List V → Hp → VK → Prop := fun xs H Q => ∃ i, xs = [.int i] ∧ i.natAbs.log2 < 1920 ∧ Q (.str (toString i)) H
theorem call_str' : CallR X (.type "str") rStrI := call_str_int
def rIsNz : R2 := fun x y H Q => y = .non ∧ Q (.bl (decide (x = .non))) H
theorem op_isNz : OpR X (compareOp .Is) rIsNz := op_isN
def rNotNz : R2 := fun x y H Q => y = .non ∧ Q (.bl (!decide (x = .non))) H
theorem op_notNz : OpR X (compareOp .IsNot) rNotNz := op_notN
/-- a, b = a tuple or a list -/
def gUn (K : PySem.W.Frag) (n : Nat) (t : TGs) : TG := fun v σ H Q => gTup K n t v σ H Q ∨ gLst K n t v σ H Q
theorem pg_un {pos : Pos} {es : List Expr} {k : Nat} {t : TGs} {n : Nat} (hc : X.calm = true) (h : PGs X es t)
    (hn : (assignEach es X.env).length = n := by rfl) (hst : (assignEach es X.env).findIdx? (·.1) = none := by rfl) : PG X (.Tuple es k pos) (gUn X.K n t) :=
  ⟨fun pins s σ H v u Q I r hw => hw.elim (fun z => (pg_tup hc h hn hst).run pins s σ H v u Q I r z) fun z => (pg_lst hc h hn hst).run pins s σ H v u Q I r z⟩
def rIsi2 (K : PySem.W.Frag) : List V → Hp → VK → Prop := fun xs H Q => rIsi K xs H Q ∨ rIsiT K xs H Q
theorem call_isi' : CallR X (.builtin "isinstance") (rIsi2 X.K) := fun pins s σ H vs us Q I r h => h.elim (fun z => call_isi pins s σ H vs us Q I r z) (fun z => call_isiT pins s σ H vs us Q I r z)
end

def rJoin (K : PySem.W.Frag) : V → List V → Hp → VK → Prop := fun x xs H Q => ∃ a p, ∃ ys : List Str, x = .str a ∧ xs = [.ref p] ∧ (SqL K H p (ys.map V.str) ∨ SqT K H p (ys.map V.str)) ∧
  (ys.map (·.length)).sum + ys.length * a.length ≤ 16777216 ∧ Q (.str (Txt.join a ys)) H
def rWords : V → List V → Hp → VK → Prop := fun x xs H Q => ∃ a, x = .str a ∧ xs = [] ∧ a.length + 2 ≤ sizeLine ∧ rNewStrs (Txt.words a) H Q
def rSplit : V → List V → Hp → VK → Prop := fun x xs H Q => ∃ a b, x = .str a ∧ xs = [.str b] ∧ (b.length == 0) = false ∧ a.length + 2 ≤ sizeLine ∧ rNewStrs (Txt.split a b) H Q
def rUpper : V → List V → Hp → VK → Prop := fun x xs H Q => ∃ a, x = .str a ∧ xs = [] ∧ a.length ≤ 5592405 ∧ Q (.str (Txt.upper a)) H
def rRstrip : V → List V → Hp → VK → Prop := fun x xs H Q => ∃ a, x = .str a ∧ xs = [] ∧ a.length ≤ sizeLine ∧ Q (.str (Txt.rstrip a)) H
def rStrip : V → List V → Hp → VK → Prop := fun x xs H Q => ∃ a, x = .str a ∧ xs = [] ∧ a.length ≤ sizeLine ∧ Q (.str (Txt.strip a)) H
theorem sqT_mk {K : PySem.W.Frag} {H : Hp} {a : Addr} {xs : List V} {its : Array Value} {n : Nat} {od : Option Addr} {sl : Array (Option Value)} (l : K.lookup a = some ⟨.type "tuple", od, .seq its n, sl⟩) (hz : its.size ≤ 1000) (v : Vals xs its.toList) : SqT K H a xs :=
  .inr ⟨_, its, n, l, rfl, rfl, Nat.le_trans hz (by decide), v⟩

theorem at_ofN {α : Type} {xs : List α} {z : Int} {j : Nat} {v : α} (e : z = (j : Int)) (h : xs[j]? = some v) : atI xs z = some v := by
  rw [e]
  exact atI_nat h
/-! ### own functions without arguments, methods, made instances: what they may let out at the slots -/
section
open PySem.Calls
variable {X : Cx} {CX : CXT} {k : Nat} {f C : Addr} {fd : FuncData} {ps : List Str} {sp : Sp} {E : L2.St → XK} {x m : Str} {p pos apos : Pos} {e o : Expr} {es : List Expr} {ta : TE} {t : TA}
theorem pe_call0Z (F : FnOk X.prog X.w X.K X.mg X.base CX k f fd ps sp) (hr : Room k X.A) (hg : Gl X x) (hm : X.mg x = some (.ref f)) (hk : PySem.W.keepIn X.K (.ref f) = true) (hb : Binds X.K fd ps []) (hx : ∀ σ, PassesAt CX X σ (E σ))
    (hdb : (x == ("__debug__" : Str)) = false := by decide) : PE X (.Call (.Name x p) [] [] pos) (tCallS sp E tNil) := by
  refine ⟨fun pins s σ H Q I h => ?_⟩
  refine wpAny_Call_Name_kw (ld_glob I hg hm ?_ hdb)
  exact PySem.W.callWith_K0 I.kIn hk (run_fnS (us := []) F hr hb (hx σ) I .nil h)
def zSelf (C : Addr) (m : Str) (x : V) (H : Hp) (N : Prop) : Prop := ∃ a dx fs, x = .ref a ∧ H a = some (.ins C dx fs) ∧ fs.lookup m = none ∧ N
def tMethZ (C : Addr) (m : Str) (sp : Sp) (E : L2.St → XK) (ta : TE) (t : TA) : TE := fun σ H Q => ta σ H fun x H1 => ∃ a dx fs, x = .ref a ∧ H1 a = some (.ins C dx fs) ∧ fs.lookup m = none ∧ t σ H1 fun vs H2 => sp (x :: vs) H2 Q (E σ)
theorem pe_methZ {pl : Sem Bool} (he : PE X o ta) (c : Cls X.K C) (hm : Meth X.K C m f) (F : FnOk X.prog X.w X.K X.mg X.base CX k f fd ps sp) (hr : Room k X.A) (hb : Binds X.K fd ps []) (hx : ∀ σ, PassesAt CX X σ (E σ)) (ha : PA X (e :: es) t)
    (hst : starEach (e :: es) X.env = (false, eval e X.env) :: starEach es X.env := by rfl) (hpl : (backTo pos (starEach es X.env)).any (·.1) = false := by rfl)
    (ht : eval (.Call (.Attribute o m apos) (e :: es) [] pos) X.env = (do
      let ov ← eval o X.env
      standAt apos.atName
      let (f, first) ← holding [ov] (getMethod ov m pl)
      callWith pos f first (backTo pos (starEach (e :: es) X.env)) (backToKw pos (keywordEach [] X.env))) := by rfl) :
    PE X (.Call (.Attribute o m apos) (e :: es) [] pos) (tMethZ C m sp E ta t) := by
  refine ⟨fun pins s σ H Q I h => ?_⟩
  refine PySem.W.methodCall_KW (pl := pl) (thn (he.run pins s σ H _ I h) fun u s1 ⟨x, H1, I1, rx, a, dx, fs, ex, ea, l, q⟩ => ?_) ht
  subst ex
  obtain rfl : u = Value.ref a := rx
  refine getmeth_ok I1 ea c hm l ?_
  refine PySem.W.callWith_K (first := [.ref a]) (h₀ := X.base) I.ok.mod.kin hm.kp (thn (ha.run pos pins s1 σ H1 _ I1 q) fun us s2 ⟨vs, H2, I2, r, q2⟩ => ⟨I2.kIn, ?_⟩) hst hpl
  exact run_fnS (us := .ref a :: us) (vs := .ref a :: vs) F hr hb (hx σ) I2 (.cons rfl r) q2
theorem pe_meth0Z {pl : Sem Bool} (he : PE X o ta) (c : Cls X.K C) (hm : Meth X.K C m f) (F : FnOk X.prog X.w X.K X.mg X.base CX k f fd ps sp) (hr : Room k X.A) (hb : Binds X.K fd ps []) (hx : ∀ σ, PassesAt CX X σ (E σ))
    (ht : eval (.Call (.Attribute o m apos) [] [] pos) X.env = (do
      let ov ← eval o X.env
      standAt apos.atName
      let (f, first) ← holding [ov] (getMethod ov m pl)
      callWith pos f first (backTo pos (starEach [] X.env)) (backToKw pos (keywordEach [] X.env))) := by rfl) :
    PE X (.Call (.Attribute o m apos) [] [] pos) (tMethZ C m sp E ta tNil) := by
  refine ⟨fun pins s σ H Q I h => ?_⟩
  refine PySem.W.methodCall_KW (pl := pl) (thn (he.run pins s σ H _ I h) fun u s1 ⟨x, H1, I1, rx, a, dx, fs, ex, ea, l, q⟩ => ?_) ht
  subst ex
  obtain rfl : u = Value.ref a := rx
  refine getmeth_ok I1 ea c hm l ?_
  exact PySem.W.callWith_K0 (first := [.ref a]) I1.kIn hm.kp (run_fnS (us := [.ref a]) (vs := [.ref a]) F hr hb (hx σ) I1 (.cons rfl .nil) q)
def tMakeZ (C : Addr) (sp : Sp) (E : L2.St → XK) (t : TA) : TE := fun σ H Q => t σ H fun vs H1 => ∀ x dx, H1 x = none → H1 dx = none → dx ≠ x →
  sp (.ref x :: vs) (upd (upd H1 dx (.own x)) x (.ins C dx [])) (fun v H2 => v = .non ∧ Q (.ref x) H2) (E σ)
theorem run_makeZ {pins : List (Addr × Obj)} {σ : L2.St} {H : Hp} {s : Shared} {Q : VK} {us : List Value} {vs : List V} {E : XK} (M : Mk X.K C f) (F : FnOk X.prog X.w X.K X.mg X.base CX k f fd ps sp) (hr : Room (k + 1) X.A) (hb : Binds X.K fd ps [])
    (hx : PassesAt CX X σ E) (I : Inv X pins σ H s) (r : Vals vs us)
    (h : ∀ x dx, H x = none → H dx = none → dx ≠ x → sp (.ref x :: vs) (upd (upd H dx (.own x)) x (.ins C dx [])) (fun v H2 => v = .non ∧ Q (.ref x) H2) E) :
    wpAny (model X.prog X.w) X.A (call (.ref C) us) (EP X pins σ Q) X.xe s := by
  have hq := h (s.heap.objs.size + 1) s.heap.objs.size (I.hok.fresh (Nat.le_succ _)) (I.hok.fresh (Nat.le_refl _)) (Nat.ne_of_lt (Nat.lt_succ_self _))
  have I2 := Inv.made (C := C) I
  have r2 : Vals (V.ref (s.heap.objs.size + 1) :: vs) (Value.ref (s.heap.objs.size + 1) :: us) := .cons rfl r
  have hl : (Value.ref (s.heap.objs.size + 1) :: us).length = ps.length := by rw [← r2.length]; exact F.len _ _ _ _ hq
  have b := hb _ (Value.ref (s.heap.objs.size + 1) :: us) I2.kIn (by rw [List.append_nil]; exact hl)
  rw [List.append_nil] at b
  refine wpAny_call (make_map (f := f) I.kIn M.makes M.init (beq_iff_eq.mp M.fn) (codeAny_mono (F.run _ X.stack _ _ ⟨Value.ref (s.heap.objs.size + 1) :: us, []⟩ (Value.ref (s.heap.objs.size + 1) :: us) _ _ E (hr.make C us [])
    (I2.env0.make C us []) b r2 hq) fun r s' hq' => ?_))
  cases r with
  | error e => exact hx pins _ _ e s' I2 hq'
  | ok fl =>
    cases fl with
    | ret u =>
      obtain ⟨v, H', I3, rv, ev, q3⟩ := I2.after hq'
      subst ev
      exact ⟨rv, ⟨V.ref (s.heap.objs.size + 1), H', I3, rfl, q3⟩⟩
    | next => exact False.elim hq'
    | brk => exact False.elim hq'
    | cont => exact False.elim hq'
theorem pe_makeZ (M : Mk X.K C f) (F : FnOk X.prog X.w X.K X.mg X.base CX k f fd ps sp) (hr : Room (k + 1) X.A) (hg : Gl X x) (hm : X.mg x = some (.ref C)) (hb : Binds X.K fd ps []) (hx : ∀ σ, PassesAt CX X σ (E σ))
    (ha : PA X (e :: es) t) (hdb : (x == ("__debug__" : Str)) = false := by decide) (he : starEach (e :: es) X.env = (false, eval e X.env) :: starEach es X.env := by rfl) (hpl : (backTo pos (starEach es X.env)).any (·.1) = false := by rfl) :
    PE X (.Call (.Name x p) (e :: es) [] pos) (tMakeZ C sp E t) := by
  refine ⟨fun pins s σ H Q I h => ?_⟩
  refine wpAny_Call_Name_kw (ld_glob I hg hm ?_ hdb)
  refine PySem.W.callWith_K (h₀ := X.base) I.ok.mod.kin M.kp (thn (ha.run pos pins s σ H _ I h) fun us s1 ⟨vs, H1, I1, r, q⟩ => ⟨I1.kIn, ?_⟩) he hpl
  exact run_makeZ M F hr hb (hx σ) I1 r q
theorem pe_make0Z (M : Mk X.K C f) (F : FnOk X.prog X.w X.K X.mg X.base CX k f fd ps sp) (hr : Room (k + 1) X.A) (hg : Gl X x) (hm : X.mg x = some (.ref C)) (hb : Binds X.K fd ps []) (hx : ∀ σ, PassesAt CX X σ (E σ))
    (hdb : (x == ("__debug__" : Str)) = false := by decide) : PE X (.Call (.Name x p) [] [] pos) (tMakeZ C sp E tNil) := by
  refine ⟨fun pins s σ H Q I h => ?_⟩
  refine wpAny_Call_Name_kw (ld_glob I hg hm ?_ hdb)
  exact PySem.W.callWith_K0 I.kIn M.kp (run_makeZ (us := []) M F hr hb (hx σ) I .nil h)
/-- a statement that is never come to -/
def zNever : TS := fun _ _ _ => False
theorem ps_zNever {st : Stmt} : PS X st zNever := ⟨fun _ _ _ _ _ _ h => h.elim⟩
end
theorem lk_eq {f : Str} {v : V} {r : List (Str × V)} : List.lookup f ((f, v) :: r) = some v := by simp [List.lookup]
theorem lk_ne {f g : Str} {v : V} {r : List (Str × V)} (h : ¬ f = g) : List.lookup f ((g, v) :: r) = List.lookup f r := by
  have : (f == g) = false := by simpa using h
  simp [List.lookup, this]
theorem pu_eq {f : Str} {y v : V} {r : List (Str × V)} : putF f y ((f, v) :: r) = (f, y) :: r := if_pos rfl
theorem pu_ne {f g : Str} {y v : V} {r : List (Str × V)} (h : ¬ g = f) : putF f y ((g, v) :: r) = (g, v) :: putF f y r := if_neg h
theorem pu_nil {f : Str} {y : V} : putF f y [] = [(f, y)] := rfl

/-! ### own exceptions -/
section
open PySem.Calls
variable {X : Cx} {e : Expr} {es : List Expr} {ta : TA} {p1 p2 pos : Pos} {D : Addr} {n : Str}
/-- D.__init__(self, ..), D an own class over ValueError without an __init__ of its own -/
theorem pe_cinit {pl : Sem Bool} (hg : Gl X n) (hm : X.mg n = some (.ref D)) (hr : PySem.W.readsIn X.K D (.type "type") = true) (hs : PySem.W.specialIn X.K (.ref D) "__getattribute__" = some (some (.builtin "type.__getattribute__")))
    (hv : PySem.W.findCls X.K (.ref D) (.type "type") "__init__" = some (.val (.builtin "ValueError.__init__"))) (ha : PA X (e :: es) ta) (hdb : (n == ("__debug__" : Str)) = false := by decide)
    (hc : eval (.Call (.Attribute (.Name n p1) "__init__" p2) (e :: es) [] pos) X.env = (do
      let ov ← eval (.Name n p1) X.env
      standAt p2.atName
      let (f, first) ← holding [ov] (getMethod ov "__init__" pl)
      callWith pos f first (backTo pos (starEach (e :: es) X.env)) (backToKw pos (keywordEach [] X.env))) := by rfl)
    (he : starEach (e :: es) X.env = (false, eval e X.env) :: starEach es X.env := by rfl) (hpl : (backTo pos (starEach es X.env)).any (·.1) = false := by rfl) :
    PE X (.Call (.Attribute (.Name n p1) "__init__" p2) (e :: es) [] pos) (tVeI X.K ta) := by
  refine ⟨fun pins s σ H Q I h => ?_⟩
  refine PySem.W.methodCall_KW (ld_glob I hg hm ?_ hdb) hc
  refine PySem.W.method_cls I.kIn hs (PySem.W.cls_value I.kIn hr hv (by decide +kernel) ?_)
  show wpAny _ _ (callWith pos (Value.builtin "ValueError.__init__") [] (backTo pos (starEach (e :: es) X.env)) []) _ _ _
  refine PyProof.Rows.callWith_method1 (thn (ha.run pos pins _ σ H _ (I.tok _) h) fun us s1 ⟨vs, H1, I1, r1, a, C, ws, ev, hl, T, ea, q⟩ => ?_) he hpl
  subst ev
  cases r1 with
  | @cons _ u0 _ ur ra rw' =>
    obtain rfl : u0 = Value.ref a := ra
    have hlen : ur.length ≤ sizeLine := by
      rw [← Paired.length rw', sizeLine_eq]
      omega
    exact oinit_ok T I1 ea hlen fun s' J => ⟨.non, H1, J, rfl, q⟩
/-- raise C(..) with an __init__ of its own -/
def sRaiseO (C : Addr) (sp : Sp) (W : WX) (ta : TA) : TS := fun _ σ H => tMkO C sp [] ta σ H fun cls d H' => W cls d σ H'
theorem ps_raiseO {CX : CXT} {W : WX} {x : Str} {C fI : Addr} {k : Nat} {fd : FuncData} {ps : List Str} {sp : Sp} {p pos' : Pos} (hcalm : X.calm = true) (tk : Takes X W) (T : OexC X.K C) (iC : PySem.W.findIn X.K (.ref C) "__init__" = some (some (.ref fI))) (tI : PySem.W.typeIn X.K (.ref fI) = some (.type "function"))
    (F1 : FnOk X.prog X.w X.K X.mg X.base CX k fI fd ps sp) (hr : Room (k + 1) X.A) (hb : Binds X.K fd ps []) (hx : Passes CX X (fun _ _ _ => False)) (hg : Gl X x) (hm : X.mg x = some (.ref C)) (ha : PA X (e :: es) ta)
    (hdb : (x == ("__debug__" : Str)) = false := by decide) (he : starEach (e :: es) X.env = (false, eval e X.env) :: starEach es X.env := by rfl) (hpl : (backTo pos (starEach es X.env)).any (·.1) = false := by rfl) :
    PS X (.Raise (some (.Call (.Name x p) (e :: es) [] pos)) none pos') (sRaiseO C sp W ta) :=
  ps_raise hcalm tk (pmk_oex T iC tI F1 hr hb .nil hx hg hm ha hdb he hpl)
theorem passF {X : Cx} : Passes (L2.CX X.prog X.w) X (fun _ _ _ => False) := fun pins σ H s e s' I c => passL pins σ H s e s' I c
/-- an error of the class at S: does «except C» name it -/
theorem exm_mk {K : PySem.W.Frag} {S C : Addr} {b : Bool} (h1 : PySem.W.subIn K (.ref C) (.type "BaseException") = some true) (h2 : PySem.W.isClsIn K C = true) (h3 : PySem.W.typeIn K (.ref C) = some (.type "type")) (h4 : PySem.W.subIn K (.ref S) (.ref C) = some b) :
    PySem.W.exmOne K (.ref S) (.ref C) = some b := by
  have e1 : (PySem.W.subIn K (.ref C) (.type "BaseException") == some true) = true := by rw [h1] <;> rfl
  have e2 : ((PySem.W.clsIn K C).isSome && PySem.W.typeIn K (.ref C) == some (.type "type")) = true := by
    have h2' : (PySem.W.clsIn K C).isSome = true := h2
    rw [h2', h3] <;> rfl
  show (if (PySem.W.subIn K (.ref C) (.type "BaseException") == some true) = true then (if ((PySem.W.clsIn K C).isSome && PySem.W.typeIn K (.ref C) == some (.type "type")) = true then PySem.W.subIn K (.ref S) (.ref C) else none) else none) = some b
  rw [if_pos e1, if_pos e2]
  exact h4
def sTryOnly (K : PySem.W.Frag) (c : Value) (tb : WX → TS) (ts : Addr → Value → Option Addr → TS) (W : WX) : TS := fun D σ H => tb (wOnly K c ts W D) D σ H
/-- raise C('m'), C without an __init__ of its own -/
def sRaiseN (C : Addr) (W : WX) : TS := fun _ σ H => W (.ref C) none σ H
/-- try: .. except x as n: .. -/
def sTryAs (K : PySem.W.Frag) (c : Value) (i : Nat) (tb : WX → TS) (ts : Addr → Value → Option Addr → TS) (W : WX) : TS := fun D σ H => tb (wAs K c i ts W D) D σ H
end
def zPutF (K : PySem.W.Frag) (x : V) (f : Str) (y : V) (H : Hp) (N : Hp → Prop) : Prop := ∃ a C dx fs, x = .ref a ∧ H a = some (.ins C dx fs) ∧ Cls K C ∧ NoAttr K C f ∧ fs.length < 1000 ∧ N (upd H a (.ins C dx (putF f y fs)))
def zMade (C : Addr) (H : Hp) (sp : V → Hp → Prop) : Prop := ∀ x dx, H x = none → H dx = none → dx ≠ x → sp (.ref x) (upd (upd H dx (.own x)) x (.ins C dx []))
/-! ### parts of readings by name -/
def zB (x : V) (H : Hp) (Q : Bool → Hp → Prop) : Prop := ∃ k, x = .bl k ∧ Q k H
def zTup (xs : List V) (H : Hp) (Q : VK) : Prop := xs.length ≤ sizeLine ∧ ∀ p, H p = none → Q (.ref p) (upd H p (.tup xs))
def zLst (xs : List V) (H : Hp) (Q : VK) : Prop := xs.length ≤ sizeLine ∧ ∀ p, H p = none → Q (.ref p) (upd H p (.lst xs))
def zIf (k : Bool) (A B : Prop) : Prop := if k = true then A else B
def zDGet (x y : V) (H : Hp) (Q : VK) : Prop := ∃ a v, x = .ref a ∧ DGet H a y (some v) ∧ Q v H
def zDIn (y x : V) (H : Hp) (Q : VK) : Prop := ∃ a o, x = .ref a ∧ DGet H a y o ∧ Q (.bl o.isSome) H
def zDNotIn (y x : V) (H : Hp) (Q : VK) : Prop := ∃ a o, x = .ref a ∧ DGet H a y o ∧ Q (.bl (!o.isSome)) H
def zDPut (x y v : V) (H : Hp) (N : Hp → Prop) : Prop := ∃ a H4, x = .ref a ∧ DPut H a y v H4 ∧ N H4
def zFld (K : PySem.W.Frag) (x : V) (f : Str) (H : Hp) (Q : VK) : Prop := ∃ a C dx fs v, x = .ref a ∧ H a = some (.ins C dx fs) ∧ Cls K C ∧ NoAttr K C f ∧ fs.lookup f = some v ∧ Q v H
def zTy (K : PySem.W.Frag) (T : String) (x : V) (H : Hp) (N : Prop) : Prop := tyV K T x H ∧ N
def zGTup (K : PySem.W.Frag) (n : Nat) (t : TGs) (v : V) (σ : L2.St) (H : Hp) (Q : L2.St → Hp → Prop) : Prop := ∃ a xs, v = .ref a ∧ (SqT K H a xs ∨ SqL K H a xs) ∧ xs.length = n ∧ t xs σ H Q

section
variable {K : PySem.W.Frag} {σ : L2.St} {H : Hp} {Q : VK} {QB : Bool → Hp → Prop} {QA : List V → Hp → Prop} {N b c : L2.St → Hp → Prop} {r : VK} {ta tb tc te : TE} {t u : TT} {tt tu : TS} {tA : TA} {g : TG} {v w x y : V} {i j : Int} {n : Nat} {p q a : Addr} {xs ys : List V} {rr rr' : R2} {k : Bool} {A B : Prop}

/-! ### statements -/
theorem s_seq (h : tt ⟨tu ⟨N, r, b, c⟩, r, b, c⟩ σ H) : tSeq tt tu ⟨N, r, b, c⟩ σ H := h
theorem s_cut (Mid : L2.St → Hp → Prop) (h1 : tt ⟨Mid, r, b, c⟩ σ H) (h2 : ∀ σ' H', Mid σ' H' → tu ⟨N, r, b, c⟩ σ' H') : C8.tCut tt tu ⟨N, r, b, c⟩ σ H := ⟨Mid, h1, h2⟩
theorem s_next (h : N σ H) : tNext ⟨N, r, b, c⟩ σ H := h
theorem s_break (h : b σ H) : tBreak ⟨N, r, b, c⟩ σ H := h
theorem s_cont (h : c σ H) : tCont ⟨N, r, b, c⟩ σ H := h
theorem s_ret (h : te σ H r) : tRet te ⟨N, r, b, c⟩ σ H := h
theorem s_retN (h : r .non H) : tRetN ⟨N, r, b, c⟩ σ H := h
theorem s_drop (h : te σ H fun _ H1 => N σ H1) : tDrop te ⟨N, r, b, c⟩ σ H := h
theorem s_set (h : te σ H fun v H1 => N (σ.set n (some v)) H1) : tAsg te (gName n) ⟨N, r, b, c⟩ σ H := h
theorem s_asg (h : te σ H fun v H1 => g v σ H1 N) : tAsg te g ⟨N, r, b, c⟩ σ H := h
theorem s_if (h : t σ H fun k H1 => zIf k (tt ⟨N, r, b, c⟩ σ H1) (tu ⟨N, r, b, c⟩ σ H1)) : tIfS t tt tu ⟨N, r, b, c⟩ σ H := h
theorem s_dput {td ty tv : TE} (h : tv σ H fun v H1 => td σ H1 fun x H2 => ty σ H2 fun y H3 => zDPut x y v H3 fun H4 => N σ H4) : sDPut td ty tv ⟨N, r, b, c⟩ σ H := h
/-! ### targets -/
theorem s_gname {NN : L2.St → Hp → Prop} (h : NN (σ.set n (some v)) H) : gName n v σ H NN := h
theorem s_gsub {to ti : TE} {ts : TSet} {NN : L2.St → Hp → Prop} (h : to σ H fun o H1 => ti σ H1 fun i H2 => ts o i v H2 fun H3 => NN σ H3) : gSub to ti ts v σ H NN := h
theorem s_gtup {tg : TGs} {NN : L2.St → Hp → Prop} (hs : SqT K H a xs) (hl : xs.length = n) (h : tg xs σ H NN) : gTup K n tg (.ref a) σ H NN := ⟨a, xs, rfl, hs, hl, h⟩
theorem s_gnil {NN : L2.St → Hp → Prop} (h : NN σ H) : gNil [] σ H NN := ⟨rfl, h⟩
theorem s_gcons {t1 : TG} {t2 : TGs} {NN : L2.St → Hp → Prop} (h : t1 v σ H fun σ' H' => t2 xs σ' H' NN) : gCons t1 t2 (v :: xs) σ H NN := ⟨v, xs, rfl, h⟩
/-! ### expressions -/
theorem s_var (h : σ[n]? = some (some v)) (q : Q v H) : tVar n σ H Q := ⟨v, h, q⟩
theorem s_c (q : Q v H) : tC v σ H Q := q
theorem s_op (h : ta σ H fun x H1 => tb σ H1 fun y H2 => rr x y H2 Q) : tOp rr ta tb σ H Q := h
theorem s_un {ru : V → Hp → VK → Prop} (h : ta σ H fun x H1 => ru x H1 Q) : tUn ru ta σ H Q := h
theorem s_cb {rc : List V → Hp → VK → Prop} (h : tA σ H fun vs H1 => rc vs H1 Q) : tCB rc tA σ H Q := h
theorem s_nil (h : QA [] H) : tNil σ H QA := h
theorem s_cons {tr : TA} (h : ta σ H fun x H1 => tr σ H1 fun xs H2 => QA (x :: xs) H2) : tCons ta tr σ H QA := h
theorem s_call {sp : Sp} {E : XK} (h : tA σ H fun vs H1 => sp vs H1 Q E) : tCall sp [] E tA σ H Q := by
  show tA σ H fun vs H1 => sp (vs ++ []) H1 Q E
  simp only [List.append_nil]
  exact h
theorem s_tup (h : tA σ H fun xs H1 => zTup xs H1 Q) : tTup tA σ H Q := h
theorem s_lst (h : tA σ H fun xs H1 => zLst xs H1 Q) : tLst tA σ H Q := h
theorem s_ztup (h : Nat.ble xs.length sizeLine = true) (h2 : ∀ p, H p = none → Q (.ref p) (upd H p (.tup xs))) : zTup xs H Q := ⟨Nat.le_of_ble_eq_true h, h2⟩
theorem s_zlst (h : Nat.ble xs.length sizeLine = true) (h2 : ∀ p, H p = none → Q (.ref p) (upd H p (.lst xs))) : zLst xs H Q := ⟨Nat.le_of_ble_eq_true h, h2⟩
theorem s_test (h : te σ H fun x H1 => zB x H1 QB) : tTest te σ H QB := h
theorem s_B (h : te σ H fun x H1 => zB x H1 QB) : tB te σ H QB := h
theorem s_zB (h : QB k H) : zB (.bl k) H QB := ⟨k, rfl, h⟩
theorem s_and (h : t σ H fun k H1 => zIf k (u σ H1 QB) (QB false H1)) : tAnd t u σ H QB := h
theorem s_or (h : t σ H fun k H1 => zIf k (QB true H1) (u σ H1 QB)) : tOr t u σ H QB := h
theorem s_not (h : t σ H fun k H1 => QB (!k) H1) : tNot t σ H QB := h
theorem s_chain (h : ta σ H fun x H1 => tb σ H1 fun y H2 => rr x y H2 fun z H3 => zB z H3 fun k H3 => zIf k (tc σ H3 fun w H4 => rr' y w H4 Q) (Q (.bl false) H3)) : tChain rr rr' ta tb tc σ H Q := h
theorem s_ifE (h : t σ H fun k H1 => zIf k (ta σ H1 Q) (tb σ H1 Q)) : tIf t ta tb σ H Q := h
theorem s_bm {T : String} {rm : V → List V → Hp → VK → Prop} (h : ta σ H fun x H1 => zTy K T x H1 (tA σ H1 fun xs H2 => rm x xs H2 Q)) : tBM K T rm ta tA σ H Q := h
theorem s_bm0 {T : String} {rm : V → List V → Hp → VK → Prop} (h : ta σ H fun x H1 => zTy K T x H1 (rm x [] H1 Q)) : tBM0 K T rm ta σ H Q := h
theorem s_fld {f : Str} (h : ta σ H fun x H1 => zFld K x f H1 Q) : tFld K ta f σ H Q := h
theorem s_meth {C : Addr} {m : Str} {sp : Sp} {W : WX} (h : ta σ H fun x H1 => zSelf C m x H1 (tA σ H1 fun vs H2 => sp (x :: vs) H2 Q (WE W σ))) : tMethZ C m sp (WE W) ta tA σ H Q := h
theorem s_zself {C dx : Addr} {m : Str} {fs : List (Str × V)} {N1 : Prop} (h1 : H p = some (.ins C dx fs)) (h2 : fs.lookup m = none) (h : N1) : zSelf C m (.ref p) H N1 := ⟨p, dx, fs, rfl, h1, h2, h⟩
theorem s_make {C : Addr} {sp : Sp} {W : WX} (h : tA σ H fun vs H1 => zMade C H1 fun x H2 => sp (x :: vs) H2 (fun v H2 => v = .non ∧ Q x H2) (WE W σ)) : tMakeZ C sp (WE W) tA σ H Q := h
theorem s_fldset {f : Str} (h : tb σ H fun y H1 => ta σ H1 fun x H2 => zPutF K x f y H2 fun H3 => N σ H3) : sFld K ta tb f ⟨N, r, b, c⟩ σ H := h
theorem s_zputF {C dx : Addr} {fs : List (Str × V)} {f : Str} {N1 : Hp → Prop} (h1 : H p = some (.ins C dx fs)) (hc : Cls K C) (hn : NoAttr K C f) (hl : fs.length < 1000) (h : N1 (upd H p (.ins C dx (putF f y fs)))) : zPutF K (.ref p) f y H N1 := ⟨p, C, dx, fs, rfl, h1, hc, hn, hl, h⟩
def zRev (K : PySem.W.Frag) (x : V) (H : Hp) (Q : VK) : Prop := ∃ a xs, x = .ref a ∧ SqL K H a xs ∧ ∀ p, H p = none → Q (.ref p) (upd H p (.lst xs.reverse))
theorem s_rev (h : ta σ H fun x H1 => zRev K x H1 Q) : tRevL K ta σ H Q := h
theorem s_zrev (h1 : SqL K H p xs) (h : ∀ a, H a = none → Q (.ref a) (upd H a (.lst xs.reverse))) : zRev K (.ref p) H Q := ⟨p, xs, rfl, h1, h⟩
theorem s_pop {z : V} (h1 : H p = some (.lst xs)) (h2 : xs[xs.length - 1]? = some z) (h : Q z (upd H p (.lst xs.dropLast))) : rPop (.ref p) [] H Q := ⟨p, xs, z, rfl, rfl, h1, h2, h⟩
theorem s_reverse (h1 : H p = some (.lst xs)) (h : Q .non (upd H p (.lst xs.reverse))) : rReverse (.ref p) [] H Q := ⟨p, xs, rfl, rfl, h1, h⟩
def zMkO (C : Addr) (sp : Sp) (vs : List V) (H1 : Hp) (Q : XK) : Prop := vs.length ≤ 1000 ∧ ∀ a, H1 a = none → sp (.ref a :: (vs ++ [])) (upd H1 a (exo a C none))
  (fun v H2 => v = .non ∧ ∃ (d : Addr) (fs : List (Str × V)), H2 a = some (exo a C (some d)) ∧ H2 d = some (exd d fs) ∧ H1 d = none ∧ Q (.ref C) (some d) (upd (del H2 a) d (.xd fs))) (fun _ _ _ => False)
theorem s_raiseO {C : Addr} {sp : Sp} {W : WX} (h : tA σ H fun vs H1 => zMkO C sp vs H1 fun cls d H' => W cls d σ H') : sRaiseO C sp W tA ⟨N, r, b, c⟩ σ H := h
theorem s_tryAs {i : Nat} {cc : Value} {tbw : WX → TS} {ts : Addr → Value → Option Addr → TS} {W : WX} (h : tbw (wAs K cc i ts W ⟨N, r, b, c⟩) ⟨N, r, b, c⟩ σ H) : sTryAs K cc i tbw ts W ⟨N, r, b, c⟩ σ H := h
theorem s_raiseN {C : Addr} {W : WX} (h : W (.ref C) none σ H) : sRaiseN C W ⟨N, r, b, c⟩ σ H := h
theorem s_tryOnly {cc : Value} {tbw : WX → TS} {ts : Addr → Value → Option Addr → TS} {W : WX} (h : tbw (wOnly K cc ts W ⟨N, r, b, c⟩) ⟨N, r, b, c⟩ σ H) : sTryOnly K cc tbw ts W ⟨N, r, b, c⟩ σ H := h
theorem s_all {bs : List Bool} (h1 : SqL K H p (bs.map V.bl)) (h : Q (.bl (bs.all id)) H) : rAll K [.ref p] H Q := ⟨p, bs, rfl, h1, h⟩
def zVeI (K : PySem.W.Frag) (vs : List V) (H1 : Hp) (Q : VK) : Prop := ∃ (a C : Addr) (ws : List V), vs = .ref a :: ws ∧ ws.length ≤ 1000 ∧ OexC K C ∧ H1 a = some (exo a C none) ∧ Q .non H1
theorem s_vei (h : tA σ H fun vs H1 => zVeI K vs H1 Q) : tVeI K tA σ H Q := h
def zOst (K : PySem.W.Frag) (f : Str) (x y : V) (H2 : Hp) (NN : Hp → Prop) : Prop := ∃ a C : Addr, x = .ref a ∧ OexC K C ∧ PySem.W.findIn K (.ref C) f = some none ∧
  ((H2 a = some (exo a C none) ∧ ∀ dx, H2 dx = none → dx ≠ a → NN (upd (upd H2 dx (exd dx [(f, y)])) a (exo a C (some dx)))) ∨
    ∃ (dx : Addr) (fs : List (Str × V)), H2 a = some (exo a C (some dx)) ∧ H2 dx = some (exd dx fs) ∧ fs.length ≤ 900 ∧ NN (upd H2 dx (exd dx ((f, y) :: fs))))
theorem s_ost {f : Str} (h : tb σ H fun y H1 => ta σ H1 fun x H2 => zOst K f x y H2 fun H3 => N σ H3) : tOst K f ta tb ⟨N, r, b, c⟩ σ H := h
def zXf (a : Addr) (cls : Value) (d : Option Addr) (C : Addr) (f : Str) (x : V) (H1 : Hp) (Q : VK) : Prop := x = .ref a ∧ cls = .ref C ∧ ∃ (dd : Addr) (fs : List (Str × V)) (v : V), d = some dd ∧ H1 dd = some (.xd fs) ∧ fs.lookup f = some v ∧ Q v H1
theorem s_xf {cls : Value} {d : Option Addr} {C : Addr} {f : Str} (h : te σ H fun x H1 => zXf a cls d C f x H1 Q) : tXf a cls d C f te σ H Q := h
theorem s_rep (h1 : H p = some (.lst xs)) (h2 : -(2 ^ 63) ≤ i ∧ i < 2 ^ 63) (h3 : xs.length * i.toNat ≤ sizeLine) (h : ∀ a, H a = none → Q (.ref a) (upd H a (.lst (List.replicate i.toNat xs).flatten))) : rRep (.ref p) (.int i) H Q := ⟨p, i, xs, rfl, rfl, h1, h2.1, h2.2, h3, h⟩
theorem s_dget2 {td ty tx : TE} (h : td σ H fun x H1 => ∃ a, x = .ref a ∧ IsD H1 a ∧ ty σ H1 fun y H2 => tx σ H2 fun z H3 => ∃ o, DGet H3 a y o ∧ Q (o.getD z) H3) : tDGet2 td ty tx σ H Q := h
theorem s_dget {td ty : TE} (h : td σ H fun x H1 => ty σ H1 fun y H2 => zDGet x y H2 Q) : tDGet td ty σ H Q := h
theorem s_din {td ty : TE} (h : ty σ H fun y H1 => td σ H1 fun x H2 => zDIn y x H2 Q) : tDIn ty td σ H Q := h
theorem s_dnotin {td ty : TE} (h : ty σ H fun y H1 => td σ H1 fun x H2 => zDNotIn y x H2 Q) : tDNotIn ty td σ H Q := h
theorem s_dnew (h : ∀ p, H p = none → Q (.ref p) (upd H p (.dK []))) : tDNewK σ H Q := h
theorem s_disp {trs : List (TE × TE)} (h : ∀ p, H p = none → tPairs trs σ (upd H p (.dK [])) fun ps H2 => H2 p = some (.dK []) ∧ ∃ kvs : List (Key × V), ps = kvs.map (fun kv => (kV kv.1, kv.2)) ∧ kvs.length ≤ 15 ∧ Q (.ref p) (upd H2 p (.dK (mergeK [] kvs)))) : tDisp trs σ H Q := h
theorem s_pnil {QP : List (V × V) → Hp → Prop} (h : QP [] H) : tPairs [] σ H QP := h
theorem s_pcons {tk tv : TE} {trs : List (TE × TE)} {QP : List (V × V) → Hp → Prop} (h : tk σ H fun x H1 => tv σ H1 fun y H2 => tPairs trs σ H2 fun ps H3 => QP ((x, y) :: ps) H3) : tPairs ((tk, tv) :: trs) σ H QP := h
theorem s_andV (h : ta σ H fun x H1 => zB x H1 fun k H1 => zIf k (tb σ H1 Q) (Q (.bl false) H1)) : tAndV ta tb σ H Q := h
theorem s_orV (h : ta σ H fun x H1 => zB x H1 fun k H1 => zIf k (Q (.bl true) H1) (tb σ H1 Q)) : tOrV ta tb σ H Q := h
theorem s_notV (h : ta σ H fun x H1 => zB x H1 fun k H1 => Q (.bl (!k)) H1) : tNotV ta σ H Q := h
/-! ### by values -/
theorem s_rI0 {gg : Int → Int → V} (h : Q (gg i j) H) : rI0 gg (.int i) (.int j) H Q := ⟨i, j, rfl, rfl, h⟩
theorem s_rU {gg : Int → V} (h : Q (gg i) H) : rU gg (.int i) H Q := ⟨i, rfl, h⟩
theorem s_fdv (h0 : j ≠ 0 ∧ j.natAbs.log2 < 9000) (h : Q (.int (i.fdiv j)) H) : rFdv (.int i) (.int j) H Q := ⟨i, j, rfl, rfl, h0, h⟩
theorem s_mod (h0 : j ≠ 0) (h : Q (.int (i.fmod j)) H) : rMod (.int i) (.int j) H Q := ⟨i, j, rfl, rfl, h0, h⟩
theorem s_fdvp (h0 : 0 < j ∧ j < 2 ^ 64) (h : Q (.int (i / j)) H) : rFdv (.int i) (.int j) H Q := ⟨i, j, rfl, rfl, ⟨by omega, Nat.lt_of_lt_of_le (PySem.Flt.log2_lt_of (k := 64) (by decide) (by omega)) (by decide)⟩, by
  show Q (.int (i.fdiv j)) H
  rw [Int.fdiv_eq_ediv_of_nonneg i (by omega)]; exact h⟩
theorem s_modp (h0 : 0 < j) (h : Q (.int (i % j)) H) : rMod (.int i) (.int j) H Q := ⟨i, j, rfl, rfl, by omega, by
  show Q (.int (i.fmod j)) H
  rw [Int.fmod_eq_emod_of_nonneg i (by omega)]; exact h⟩
theorem s_mulp (h0 : (-18446744073709551616 < i ∧ i < 18446744073709551616) ∨ (-18446744073709551616 < j ∧ j < 18446744073709551616)) (h : Q (.int (i * j)) H) : rMul (.int i) (.int j) H Q := ⟨i, j, rfl, rfl, .inl h0, h⟩
theorem s_mul (h0 : CMul i j ∨ CMulW i j) (h : Q (.int (i * j)) H) : rMul (.int i) (.int j) H Q := ⟨i, j, rfl, rfl, h0, h⟩
theorem s_add_i (h : Q (.int (i + j)) H) : rAddU K (.int i) (.int j) H Q := .inl ⟨i, j, rfl, rfl, h⟩
theorem s_add_s {z w : Str} (h0 : z.length + w.length ≤ sizeLine) (h : Q (.str (z ++ w)) H) : rAddU K (.str z) (.str w) H Q := .inr (.inl ⟨z, w, rfl, rfl, h0, h⟩)
theorem s_add_l (h1 : H p = some (.lst xs)) (h2 : H q = some (.lst ys)) (h0 : xs.length + ys.length ≤ sizeLine) (h : ∀ a, H a = none → Q (.ref a) (upd H a (.lst (xs ++ ys)))) : rAddU K (.ref p) (.ref q) H Q := .inr (.inr (.inl ⟨p, q, xs, ys, rfl, rfl, h1, h2, h0, h⟩))
theorem s_add_t (h1 : SqT K H p xs) (h2 : SqT K H q ys) (hx : xs ≠ []) (hy : ys ≠ []) (h0 : xs.length + ys.length ≤ sizeLine) (h : ∀ a, H a = none → Q (.ref a) (upd H a (.tup (xs ++ ys)))) : rAddU K (.ref p) (.ref q) H Q := .inr (.inr (.inr ⟨p, q, xs, ys, rfl, rfl, h1, h2, h0, fun e => absurd e hx, fun _ e => absurd e hy, fun _ _ => h⟩))
theorem s_add_tl (h1 : SqT K H p []) (h2 : SqT K H q ys) (h0 : ys.length ≤ sizeLine) (h : Q (.ref q) H) : rAddU K (.ref p) (.ref q) H Q := .inr (.inr (.inr ⟨p, q, [], ys, rfl, rfl, h1, h2, by simpa using h0, fun _ => h, fun e => absurd rfl e, fun e => absurd rfl e⟩))
theorem s_add_tr (h1 : SqT K H p xs) (h2 : SqT K H q []) (hx : xs ≠ []) (h0 : xs.length ≤ sizeLine) (h : Q (.ref p) H) : rAddU K (.ref p) (.ref q) H Q := .inr (.inr (.inr ⟨p, q, xs, [], rfl, rfl, h1, h2, by simpa using h0, fun e => absurd e hx, fun _ _ => h, fun _ e => absurd rfl e⟩))
theorem s_eq_i (h : Q (.bl (decide (i = j))) H) : rEqU K (.int i) (.int j) H Q := .inl ⟨rfl, by rw [show decide (V.int i = V.int j) = decide (i = j) by simp]; exact h⟩
theorem s_ne_i (h : Q (.bl (!decide (i = j))) H) : rNeU K (.int i) (.int j) H Q := .inl ⟨rfl, by rw [show decide (V.int i = V.int j) = decide (i = j) by simp]; exact h⟩
theorem s_eq_s {z w : Str} (h : Q (.bl (decide (z = w))) H) : rEqU K (.str z) (.str w) H Q := .inl ⟨rfl, by rw [show decide (V.str z = V.str w) = decide (z = w) by simp]; exact h⟩
theorem s_ne_s {z w : Str} (h : Q (.bl (!decide (z = w))) H) : rNeU K (.str z) (.str w) H Q := .inl ⟨rfl, by rw [show decide (V.str z = V.str w) = decide (z = w) by simp]; exact h⟩
theorem s_eq_v (h0 : scal x y = true) (h : Q (.bl (decide (x = y))) H) : rEqU K x y H Q := .inl ⟨h0, h⟩
theorem s_ne_v (h0 : scal x y = true) (h : Q (.bl (!decide (x = y))) H) : rNeU K x y H Q := .inl ⟨h0, h⟩
theorem s_eq_d {d e : PyData} (h1 : Dp K H x d) (h2 : Dp K H y e) (h3 : SeqAt.shaped d = true) (h4 : SeqAt.shaped e = true) (h : Q (.bl (PyData.eqv d e)) H) : rEqU K x y H Q := .inr (.inl ⟨d, e, h1, h2, h3, h4, h⟩)
theorem s_ne_d {d e : PyData} (h1 : Dp K H x d) (h2 : Dp K H y e) (h3 : SeqAt.shaped d = true) (h4 : SeqAt.shaped e = true) (h : Q (.bl (!PyData.eqv d e)) H) : rNeU K x y H Q := .inr (.inl ⟨d, e, h1, h2, h3, h4, h⟩)
theorem s_eq_len (h1 : H p = some (.lst xs)) (h2 : H q = some (.lst ys)) (hn : xs.length ≠ ys.length) (h : Q (.bl false) H) : rEqU K (.ref p) (.ref q) H Q := .inr (.inr ⟨p, q, xs, ys, rfl, rfl, h1, h2, hn, h⟩)
theorem s_ne_len (h1 : H p = some (.lst xs)) (h2 : H q = some (.lst ys)) (hn : xs.length ≠ ys.length) (h : Q (.bl true) H) : rNeU K (.ref p) (.ref q) H Q := .inr (.inr ⟨p, q, xs, ys, rfl, rfl, h1, h2, hn, h⟩)
theorem s_ix_l (h1 : SqL K H p xs) (h2 : atI xs i = some v) (h : Q v H) : rIx K (.ref p) (.int i) H Q := .inl ⟨p, xs, i, v, rfl, rfl, h1, h2, h⟩
theorem s_ix_t (h1 : SqT K H p xs) (h2 : atI xs i = some v) (h : Q v H) : rIx K (.ref p) (.int i) H Q := .inr (.inl ⟨p, xs, i, v, rfl, rfl, h1, h2, h⟩)
theorem s_ix_s {z : Str} {cc : Nat} (h1 : z.length ≤ sizeLine) (h2 : atI z.cps.toList i = some cc) (h : Q (.str ⟨#[cc]⟩) H) : rIx K (.str z) (.int i) H Q := .inr (.inr ⟨z, i, cc, rfl, rfl, h1, h2, h⟩)
theorem s_setL {N1 : Hp → Prop} (h1 : H p = some (.lst xs)) (h2 : ixN xs.length i = some n) (h : N1 (upd H p (.lst (xs.set n v)))) : rSetL (.ref p) (.int i) v H N1 := ⟨p, xs, i, n, rfl, rfl, h1, h2, h⟩
theorem s_len_l (h1 : SqL K H p xs) (h : Q (.int xs.length) H) : rLen K [.ref p] H Q := ⟨_, xs.length, rfl, .inl ⟨xs, h1, rfl⟩, h⟩
theorem s_len_t (h1 : SqT K H p xs) (h : Q (.int xs.length) H) : rLen K [.ref p] H Q := ⟨_, xs.length, rfl, .inr ⟨xs, h1, rfl⟩, h⟩
theorem s_len_s {z : Str} (h1 : z.length ≤ sizeLine) (h : Q (.int z.length) H) : rLen K [.str z] H Q := ⟨_, z.length, rfl, ⟨h1, rfl⟩, h⟩
theorem s_min2 (h : Q (.int (if j < i then j else i)) H) : rMin2 [.int i, .int j] H Q := ⟨i, j, rfl, h⟩
theorem s_max2 (h : Q (.int (if j > i then j else i)) H) : rMax2 [.int i, .int j] H Q := ⟨i, j, rfl, h⟩
theorem s_listof_l (h1 : SqL K H p xs) (h : ∀ l, H l = none → Q (.ref l) (upd H l (.lst xs))) : rListOf K [.ref p] H Q := ⟨p, xs, rfl, .inl h1, h⟩
theorem s_listof_t (h1 : SqT K H p xs) (h : ∀ l, H l = none → Q (.ref l) (upd H l (.lst xs))) : rListOf K [.ref p] H Q := ⟨p, xs, rfl, .inr h1, h⟩
theorem s_tupof_l (h1 : SqL K H p xs) (h : ∀ l, H l = none → Q (.ref l) (upd H l (.tup xs))) : rTupOf K [.ref p] H Q := ⟨p, xs, rfl, .inl ⟨h1, h⟩⟩
theorem s_tupof_t (h1 : SqT K H p xs) (h : Q (.ref p) H) : rTupOf K [.ref p] H Q := ⟨p, xs, rfl, .inr ⟨h1, h⟩⟩
theorem s_int1 (h : Q (.int i) H) : rInt1 [.int i] H Q := .inl ⟨i, rfl, h⟩
theorem s_int1b (h : Q (.int (if k then 1 else 0)) H) : rInt1 [.bl k] H Q := .inr ⟨k, rfl, h⟩
theorem s_abs (h : Q (.int (if i < 0 then -i else i)) H) : rAbs [.int i] H Q := ⟨i, rfl, h⟩
theorem s_strI (h0 : i.natAbs.log2 < 1920) (h : Q (.str (toString i)) H) : rStrI [.int i] H Q := ⟨i, rfl, h0, h⟩
theorem s_isi {cc : V} {ty uu : Value} {bb : Bool} (h1 : ClsV cc uu) (h2 : TyX K H x ty) (h3 : PySem.W.kitOne K ty uu = some bb) (h : Q (.bl bb) H) : rIsi2 K [x, cc] H Q := .inl ⟨x, cc, ty, uu, bb, rfl, h1, h2, h3, h⟩
theorem s_isN_i (h : Q (.bl false) H) : rIsNz (.int i) .non H Q := ⟨rfl, by rw [decide_eq_false (by intro z; cases z)]; exact h⟩
theorem s_isN_r (h : Q (.bl false) H) : rIsNz (.ref p) .non H Q := ⟨rfl, by rw [decide_eq_false (by intro z; cases z)]; exact h⟩
theorem s_isN_s {z : Str} (h : Q (.bl false) H) : rIsNz (.str z) .non H Q := ⟨rfl, by rw [decide_eq_false (by intro z; cases z)]; exact h⟩
theorem s_isN_n (h : Q (.bl true) H) : rIsNz .non .non H Q := ⟨rfl, by rw [decide_eq_true rfl]; exact h⟩
theorem s_notN_i (h : Q (.bl true) H) : rNotNz (.int i) .non H Q := ⟨rfl, by rw [decide_eq_false (by intro z; cases z)]; exact h⟩
theorem s_notN_r (h : Q (.bl true) H) : rNotNz (.ref p) .non H Q := ⟨rfl, by rw [decide_eq_false (by intro z; cases z)]; exact h⟩
theorem s_notN_s {z : Str} (h : Q (.bl true) H) : rNotNz (.str z) .non H Q := ⟨rfl, by rw [decide_eq_false (by intro z; cases z)]; exact h⟩
theorem s_notN_n (h : Q (.bl false) H) : rNotNz .non .non H Q := ⟨rfl, by rw [decide_eq_true rfl]; exact h⟩
theorem s_slL {te' : TE} {tl th : TO} {rs : V → Option Int → Option Int → Hp → VK → Prop} (h : te' σ H fun x H1 => tl σ H1 fun l H2 => th σ H2 fun u H3 => rs x l u H3 Q) : tSl rs te' tl th σ H Q := h
theorem s_nopart {QO : Option Int → Hp → Prop} (h : QO none H) : tNoPart σ H QO := h
def zPart (x : V) (H : Hp) (QO : Option Int → Hp → Prop) : Prop := ∃ i, x = .int i ∧ QO (some i) H
theorem s_part {QO : Option Int → Hp → Prop} (h : te σ H fun x H1 => zPart x H1 QO) : tPart te σ H QO := h
theorem s_zpart {QO : Option Int → Hp → Prop} (h : QO (some i) H) : zPart (.int i) H QO := ⟨i, rfl, h⟩
theorem s_cutL {lo hi : Option Int} (h1 : SqL K H a xs) (h : ∀ p, H p = none → Q (.ref p) (upd H p (.lst (cutV xs lo hi)))) : rSlU K (.ref a) lo hi H Q := .inl ⟨a, xs, rfl, h1, h⟩
theorem s_isN (h : Q (.bl (decide (x = .non))) H) : rIsNz x .non H Q := ⟨rfl, h⟩
theorem s_notN (h : Q (.bl (!decide (x = .non))) H) : rNotNz x .non H Q := ⟨rfl, h⟩
theorem s_gun_t {tg : TGs} {NN : L2.St → Hp → Prop} (hs : SqT K H a xs) (hl : xs.length = n) (h : tg xs σ H NN) : gUn K n tg (.ref a) σ H NN := .inl ⟨a, xs, rfl, hs, hl, h⟩
theorem s_gun_l {tg : TGs} {NN : L2.St → Hp → Prop} (hs : SqL K H a xs) (hl : xs.length = n) (h : tg xs σ H NN) : gUn K n tg (.ref a) σ H NN := .inr ⟨a, xs, rfl, hs, hl, h⟩
theorem s_p18 (h : Q (.int 1000000000000000000) H) : rI CPow (fun i j => .int (i ^ j.toNat)) (.int 10) (.int 18) H Q := ⟨10, 18, rfl, rfl, by unfold CPow; decide, h⟩
theorem s_callS {W : WX} {sp : Sp} (h : tA σ H fun vs H1 => sp vs H1 Q (WE W σ)) : tCallS sp (WE W) tA σ H Q := h
theorem s_in_l (h1 : SqL K H p xs) (h2 : flatV x = true) (h3 : xs.all flatV = true) (h : Q (.bl (inV x xs)) H) : rIn K false x (.ref p) H Q := ⟨p, xs, rfl, .inl h1, h2, h3, h⟩
theorem s_in_t (h1 : SqT K H p xs) (h2 : flatV x = true) (h3 : xs.all flatV = true) (h : Q (.bl (inV x xs)) H) : rIn K false x (.ref p) H Q := ⟨p, xs, rfl, .inr h1, h2, h3, h⟩
theorem s_nin_l (h1 : SqL K H p xs) (h2 : flatV x = true) (h3 : xs.all flatV = true) (h : Q (.bl (!inV x xs)) H) : rIn K true x (.ref p) H Q := ⟨p, xs, rfl, .inl h1, h2, h3, h⟩
theorem s_nin_t (h1 : SqT K H p xs) (h2 : flatV x = true) (h3 : xs.all flatV = true) (h : Q (.bl (!inV x xs)) H) : rIn K true x (.ref p) H Q := ⟨p, xs, rfl, .inr h1, h2, h3, h⟩
theorem s_append (h1 : H p = some (.lst xs)) (h2 : xs.length < sizeLine) (h : Q .non (upd H p (.lst (xs ++ [v])))) : rAppend (.ref p) [v] H Q := ⟨p, xs, v, rfl, rfl, h1, h2, h⟩
theorem s_zTyL {N0 : Prop} (h1 : H p = some (.lst xs)) (h : N0) : zTy K "list" (.ref p) H N0 := ⟨.inl ⟨rfl, xs, .inl (.inl h1)⟩, h⟩
theorem s_zTyS {N0 : Prop} {z : Str} (h : N0) : zTy K "str" (.str z) H N0 := ⟨rfl, h⟩
theorem s_zTyL' {N0 : Prop} (h1 : SqL K H p xs) (h : N0) : zTy K "list" (.ref p) H N0 := ⟨.inl ⟨rfl, xs, h1⟩, h⟩
theorem s_join_l {z : Str} {ys : List Str} (h1 : SqL K H p (ys.map V.str)) (h2 : (ys.map (·.length)).sum + ys.length * z.length ≤ 16777216) (h : Q (.str (Txt.join z ys)) H) : rJoin K (.str z) [.ref p] H Q := ⟨z, p, ys, rfl, rfl, .inl h1, h2, h⟩
theorem s_index {y z : V} {j : Nat} (h1 : SqL K H p xs) (h2 : flatV y = true) (h3 : xs.all flatV = true) (h4 : xs[j]? = some z) (h5 : eqV z y = true) (h6 : ∀ (m : Nat) (z' : V), m < j → xs[m]? = some z' → eqV z' y = false) (h : Q (.int (j : Nat)) H) : rIndex K (.ref p) [y] H Q := ⟨p, xs, y, j, z, rfl, rfl, h1, h2, h3, h4, h5, h6, h⟩
theorem s_slS {z : Str} {lo hi : Option Int} (h1 : z.length ≤ sizeLine) (h : Q (.str (cutS z lo hi)) H) : rSlS (.str z) lo hi H Q := ⟨z, rfl, h1, h⟩
theorem s_zDGet_s {z : Str} {kvs : List (Key × V)} (h1 : Rd H p (.dK kvs)) (h2 : valV kvs (Sum.inr z : Key) = some v) (h : Q v H) : zDGet (.ref p) (.str z) H Q := ⟨p, v, rfl, .inl ⟨kvs, Sum.inr z, h1, rfl, h2.symm⟩, h⟩
theorem s_zDGet_i {kvs : List (Key × V)} (h1 : Rd H p (.dK kvs)) (h2 : valV kvs (Sum.inl i : Key) = some v) (h : Q v H) : zDGet (.ref p) (.int i) H Q := ⟨p, v, rfl, .inl ⟨kvs, Sum.inl i, h1, rfl, h2.symm⟩, h⟩
theorem s_zDIn_s {z : Str} {kvs : List (Key × V)} (h1 : Rd H p (.dK kvs)) (h : Q (.bl (valV kvs (Sum.inr z : Key)).isSome) H) : zDIn (.str z) (.ref p) H Q := ⟨p, _, rfl, .inl ⟨kvs, Sum.inr z, h1, rfl, rfl⟩, h⟩
theorem s_zDIn_i {kvs : List (Key × V)} (h1 : Rd H p (.dK kvs)) (h : Q (.bl (valV kvs (Sum.inl i : Key)).isSome) H) : zDIn (.int i) (.ref p) H Q := ⟨p, _, rfl, .inl ⟨kvs, Sum.inl i, h1, rfl, rfl⟩, h⟩
theorem s_zDNotIn_s {z : Str} {kvs : List (Key × V)} (h1 : Rd H p (.dK kvs)) (h : Q (.bl (!(valV kvs (Sum.inr z : Key)).isSome)) H) : zDNotIn (.str z) (.ref p) H Q := ⟨p, _, rfl, .inl ⟨kvs, Sum.inr z, h1, rfl, rfl⟩, h⟩
theorem s_zDNotIn_i {kvs : List (Key × V)} (h1 : Rd H p (.dK kvs)) (h : Q (.bl (!(valV kvs (Sum.inl i : Key)).isSome)) H) : zDNotIn (.int i) (.ref p) H Q := ⟨p, _, rfl, .inl ⟨kvs, Sum.inl i, h1, rfl, rfl⟩, h⟩
theorem s_zDPut_s {z : Str} {kvs : List (Key × V)} {N1 : Hp → Prop} (h1 : H p = some (.dK kvs)) (h2 : kvs.length < sizeLine) (h : N1 (upd H p (.dK (putK kvs (Sum.inr z : Key) v)))) : zDPut (.ref p) (.str z) v H N1 := ⟨p, _, rfl, .inl ⟨kvs, Sum.inr z, h1, rfl, h2, rfl⟩, h⟩
theorem s_zDPut_i {kvs : List (Key × V)} {N1 : Hp → Prop} (h1 : H p = some (.dK kvs)) (h2 : kvs.length < sizeLine) (h : N1 (upd H p (.dK (putK kvs (Sum.inl i : Key) v)))) : zDPut (.ref p) (.int i) v H N1 := ⟨p, _, rfl, .inl ⟨kvs, Sum.inl i, h1, rfl, h2, rfl⟩, h⟩
theorem s_zFld {C dx : Addr} {fs : List (Str × V)} {f : Str} (h1 : H p = some (.ins C dx fs)) (hc : Cls K C) (hn : NoAttr K C f) (hl : fs.lookup f = some v) (h : Q v H) : zFld K (.ref p) f H Q := ⟨p, C, dx, fs, v, rfl, h1, hc, hn, hl, h⟩
/-! ### ways -/
theorem s_ift (h : A) : zIf true A B := by unfold zIf; rw [if_pos rfl]; exact h
theorem s_iff (h : B) : zIf false A B := by unfold zIf; rw [if_neg Bool.false_ne_true]; exact h
theorem s_ifnn {D : Prop} [Decidable D] (h1 : ¬ D → A) (h2 : D → B) : zIf (!decide D) A B := by
  by_cases h : D
  · rw [decide_eq_true h]; exact s_iff (h2 h)
  · rw [decide_eq_false h]; exact s_ift (h1 h)
theorem s_nt (h : B) : zIf (!true) A B := s_iff h
theorem s_nf (h : A) : zIf (!false) A B := s_ift h
theorem s_ifd {D : Prop} [Decidable D] (h1 : D → A) (h2 : ¬ D → B) : zIf (decide D) A B := by
  by_cases h : D
  · rw [decide_eq_true h]; exact s_ift (h1 h)
  · rw [decide_eq_false h]; exact s_iff (h2 h)
theorem s_ifn {D : Prop} [Decidable D] (h1 : ¬ D → A) (h2 : D → B) : zIf (!decide D) A B := by
  by_cases h : D
  · rw [decide_eq_true h]; exact s_iff (h2 h)
  · rw [decide_eq_false h]; exact s_ift (h1 h)
theorem s_ifdt {D : Prop} [Decidable D] (h : D) (h1 : A) : zIf (decide D) A B := by rw [decide_eq_true h]; exact s_ift h1
theorem s_ifdf {D : Prop} [Decidable D] (h : ¬ D) (h1 : B) : zIf (decide D) A B := by rw [decide_eq_false h]; exact s_iff h1
theorem s_nft {D : Prop} [Decidable D] (h : D) (h1 : B) : zIf (!decide D) A B := by rw [decide_eq_true h]; exact s_iff h1
theorem s_nff {D : Prop} [Decidable D] (h : ¬ D) (h1 : A) : zIf (!decide D) A B := by rw [decide_eq_false h]; exact s_ift h1
theorem s_ifk (h1 : k = true → A) (h2 : k = false → B) : zIf k A B := by
  cases k with
  | true => exact s_ift (h1 rfl)
  | false => exact s_iff (h2 rfl)
theorem s_ifkt (h : k = true) (h1 : A) : zIf k A B := by subst h; exact s_ift h1
theorem s_ifkf (h : k = false) (h1 : B) : zIf k A B := by subst h; exact s_iff h1
/-! ### loops -/
/-- a loop whose iterator stands -/
def zLoop (J : It) (g : TG) (tb : TS) (D : Ends) (σ : L2.St) (H1 : Hp) : Prop := ∃ W : Nat → Nat → L2.St → Hp → Prop, (∃ m, W 0 m σ H1) ∧ ∀ i m σ H, W i m σ H →
  (J.stop i H ∧ D.nx σ H) ∨ (J.go i H ∧ ∃ N : L2.St → Hp → Prop, (∀ σ' H', N σ' H' → ∃ m', m' < m ∧ W (i + 1) m' σ' H') ∧ ∀ x H', J.yld i H x H' → g x σ H' fun σ2 H2 => tb { D with nx := N, ct := N, bk := D.nx } σ2 H2)
def zRng1 (vs : List V) (H : Hp) (R : It → Hp → Prop) : Prop := ∃ j : Int, vs = [.int j] ∧ -(2 ^ 62) ≤ j ∧ j < 2 ^ 62 ∧ R (Itr 0 j.toNat) H
def zRng2 (vs : List V) (H : Hp) (R : It → Hp → Prop) : Prop := ∃ i j : Int, vs = [.int i, .int j] ∧ (-(2 ^ 62) ≤ i ∧ i < 2 ^ 62 ∧ -(2 ^ 62) ≤ j ∧ j < 2 ^ 62) ∧ R (Itr i (j - i).toNat) H
def zItL (K : PySem.W.Frag) (x : V) (H : Hp) (R : It → Hp → Prop) : Prop := ∃ a, x = .ref a ∧ (∃ xs, SqL K H a xs) ∧ R (Itl K a) H
def zItT (K : PySem.W.Frag) (x : V) (H : Hp) (R : It → Hp → Prop) : Prop := ∃ a, x = .ref a ∧ (∃ xs, SqT K H a xs) ∧ R (Itt K a) H
/-- a comprehension whose iterator stands -/
def zLc (J : It) (g : TG) (t : TT) (te : TE) (vs : List Nat) (σ : L2.St) (H1 : Hp) (Q : VK) : Prop := ∀ D, H1 D = none → ∃ W : Nat → Nat → Hp → Prop, (∃ m, W 0 m (upd H1 D (.lst []))) ∧ ∀ i m H, W i m H →
  (J.stop i H ∧ Q (.ref D) H) ∨ (J.go i H ∧ ∃ Nx : Hp → Prop, (∀ H', Nx H' → ∃ m', m' < m ∧ W (i + 1) m' H') ∧ ∀ x H', J.yld i H x H' → g x (wipe σ vs) H' fun σ2 H2 => wipe σ2 vs = wipe σ vs ∧ t σ2 H2 fun b H3 =>
    if b = true then te σ2 H3 fun y H4 => ∃ acc, H4 D = some (.lst acc) ∧ acc.length < sizeLine ∧ Nx (upd H4 D (.lst (acc ++ [y]))) else Nx H3)
def zWipe (vs : List Nat) (σ σ2 : L2.St) (A : Prop) : Prop := wipe σ2 vs = wipe σ vs ∧ A
def zAcc (D : Addr) (y : V) (H : Hp) (P : Hp → Prop) : Prop := ∃ acc, H D = some (.lst acc) ∧ acc.length < sizeLine ∧ P (upd H D (.lst (acc ++ [y])))
theorem s_lc {wi : TI} {vs : List Nat} (h : wi σ H fun J H1 => zLc J g t te vs σ H1 Q) : tLc wi g t te vs σ H Q := h
theorem s_yes (h : QB true H) : tYes σ H QB := h
theorem s_wipe {vs : List Nat} {σ2 : L2.St} (h : wipe σ2 vs = wipe σ vs) (h1 : A) : zWipe vs σ σ2 A := ⟨h, h1⟩
theorem s_acc {D : Addr} {acc : List V} {P : Hp → Prop} (h1 : H D = some (.lst acc)) (h2 : acc.length < sizeLine) (h : P (upd H D (.lst (acc ++ [y])))) : zAcc D y H P := ⟨acc, h1, h2, h⟩
theorem lc_rng {lo : Int} {vs : List Nat} (Pv : Addr → Nat → Hp → Prop) (h0 : ∀ D, H D = none → Pv D 0 (upd H D (.lst [])))
    (hs : ∀ D i H', H D = none → i < n → Pv D i H' → g (.int (lo + (i : Int))) (wipe σ vs) H' fun σ2 H2 => zWipe vs σ σ2 (t σ2 H2 fun k H3 => zIf k (te σ2 H3 fun y H4 => zAcc D y H4 (Pv D (i + 1))) (Pv D (i + 1) H3)))
    (hd : ∀ D H', H D = none → Pv D n H' → Q (.ref D) H') : zLc (Itr lo n) g t te vs σ H Q := fun D hD =>
  lc_range (Pv D) (h0 D hD) (fun i H' hi hp => hs D i H' hD hi hp) (fun H' hp => hd D H' hD hp)
theorem lc_lst {vs : List Nat} (xs : List V) (Pv : Addr → Nat → Hp → Prop) (h0 : ∀ D, H D = none → Pv D 0 (upd H D (.lst []))) (hl : ∀ D i H', H D = none → i ≤ xs.length → Pv D i H' → SqL K H' p xs)
    (hs : ∀ D i x H', H D = none → xs[i]? = some x → Pv D i H' → g x (wipe σ vs) H' fun σ2 H2 => zWipe vs σ σ2 (t σ2 H2 fun k H3 => zIf k (te σ2 H3 fun y H4 => zAcc D y H4 (Pv D (i + 1))) (Pv D (i + 1) H3)))
    (hd : ∀ D H', H D = none → Pv D xs.length H' → Q (.ref D) H') : zLc (Itl K p) g t te vs σ H Q := fun D hD =>
  lc_list (xs := xs) (Pv D) (h0 D hD) (fun i H' hi hp => hl D i H' hD hi hp) (fun i x H' hx hp => hs D i x H' hD hx hp) (fun H' hp => hd D H' hD hp)
theorem lc_tp {vs : List Nat} (xs : List V) (Pv : Addr → Nat → Hp → Prop) (h0 : ∀ D, H D = none → Pv D 0 (upd H D (.lst []))) (hl : ∀ D i H', H D = none → i ≤ xs.length → Pv D i H' → SqT K H' p xs)
    (hs : ∀ D i x H', H D = none → xs[i]? = some x → Pv D i H' → g x (wipe σ vs) H' fun σ2 H2 => zWipe vs σ σ2 (t σ2 H2 fun k H3 => zIf k (te σ2 H3 fun y H4 => zAcc D y H4 (Pv D (i + 1))) (Pv D (i + 1) H3)))
    (hd : ∀ D H', H D = none → Pv D xs.length H' → Q (.ref D) H') : zLc (Itt K p) g t te vs σ H Q := fun D hD =>
  lc_tup (xs := xs) (Pv D) (h0 D hD) (fun i H' hi hp => hl D i H' hD hi hp) (fun i x H' hx hp => hs D i x H' hD hx hp) (fun H' hp => hd D H' hD hp)
theorem cut_nat {a b : Nat} {xs : List V} (h : a ≤ b) (h2 : b ≤ xs.length) : cutV xs (some (a : Int)) (some (b : Int)) = (xs.drop a).take (b - a) := by
  unfold cutV
  rw [HT.sIx_nat, HT.sIx_nat, Nat.min_eq_left h2, Nat.min_eq_left (Nat.le_trans h h2)]
theorem s_fdvq (h0 : 0 < j ∧ j < 10 ^ 70) (h : Q (.int (i / j)) H) : rFdv (.int i) (.int j) H Q := ⟨i, j, rfl, rfl, ⟨by omega, Nat.lt_of_lt_of_le (PySem.Flt.log2_lt_of (k := 240) (by decide) (by omega)) (by decide)⟩, by
  show Q (.int (i.fdiv j)) H
  rw [Int.fdiv_eq_ediv_of_nonneg i (by omega)]; exact h⟩
theorem s_extend {b' : Addr} {zs : List V} (h1 : H p = some (.lst xs)) (h2 : H b' = some (.lst zs)) (h3 : xs.length + zs.length ≤ sizeLine) (h : Q .non (upd H p (.lst (xs ++ zs)))) : rExtend (.ref p) [.ref b'] H Q := ⟨p, b', xs, zs, rfl, rfl, h1, h2, h3, h⟩
theorem s_clear (h1 : H p = some (.lst xs)) (h : Q .non (upd H p (.lst []))) : rClear (.ref p) [] H Q := ⟨p, xs, rfl, rfl, h1, h⟩
theorem s_for {wi : TI} {tb1 : TS} (h : wi σ H fun J H1 => zLoop J g tb1 ⟨N, r, b, c⟩ σ H1) : tFor wi g tb1 ⟨N, r, b, c⟩ σ H := h
theorem s_rng1 {R : It → Hp → Prop} (h : tA σ H fun vs H1 => zRng1 vs H1 R) : iRng1 tA σ H R := h
theorem s_rng2 {R : It → Hp → Prop} (h : tA σ H fun vs H1 => zRng2 vs H1 R) : iRng2 tA σ H R := h
theorem s_itl {R : It → Hp → Prop} (h : te σ H fun x H1 => zItL K x H1 R) : iList K te σ H R := h
theorem s_itt {R : It → Hp → Prop} (h : te σ H fun x H1 => zItT K x H1 R) : iTup K te σ H R := h
theorem s_zrng1 {R : It → Hp → Prop} (h1 : -(2 ^ 62) ≤ j ∧ j < 2 ^ 62) (h : R (Itr 0 j.toNat) H) : zRng1 [.int j] H R := ⟨j, rfl, h1.1, h1.2, h⟩
theorem s_zrng2 {R : It → Hp → Prop} (h1 : -(2 ^ 62) ≤ i ∧ i < 2 ^ 62 ∧ -(2 ^ 62) ≤ j ∧ j < 2 ^ 62) (h : R (Itr i (j - i).toNat) H) : zRng2 [.int i, .int j] H R := ⟨i, j, rfl, h1, h⟩
theorem s_zitl {R : It → Hp → Prop} (h1 : SqL K H p xs) (h : R (Itl K p) H) : zItL K (.ref p) H R := ⟨p, rfl, ⟨xs, h1⟩, h⟩
theorem s_zitt {R : It → Hp → Prop} (h1 : SqT K H p xs) (h : R (Itt K p) H) : zItT K (.ref p) H R := ⟨p, rfl, ⟨xs, h1⟩, h⟩
theorem loop_range {tb1 : TS} {lo : Int} (Pv : Nat → L2.St → Hp → Prop) (h0 : Pv 0 σ H) (hs : ∀ i σ' H', i < n → Pv i σ' H' → g (.int (lo + (i : Int))) σ' H' fun σ2 H2 => tb1 ⟨Pv (i + 1), r, N, Pv (i + 1)⟩ σ2 H2)
    (hd : ∀ σ' H', Pv n σ' H' → N σ' H') : zLoop (Itr lo n) g tb1 ⟨N, r, b, c⟩ σ H := for_range (D := ⟨N, r, b, c⟩) Pv h0 hs hd
theorem loop_list {tb1 : TS} (xs : List V) (Pv : Nat → L2.St → Hp → Prop) (h0 : Pv 0 σ H) (hl : ∀ i σ' H', i ≤ xs.length → Pv i σ' H' → SqL K H' p xs)
    (hs : ∀ i x σ' H', xs[i]? = some x → Pv i σ' H' → g x σ' H' fun σ2 H2 => tb1 ⟨Pv (i + 1), r, N, Pv (i + 1)⟩ σ2 H2) (hd : ∀ σ' H', Pv xs.length σ' H' → N σ' H') : zLoop (Itl K p) g tb1 ⟨N, r, b, c⟩ σ H :=
  for_list (D := ⟨N, r, b, c⟩) (xs := xs) Pv h0 hl hs hd
theorem loop_tup {tb1 : TS} (xs : List V) (Pv : Nat → L2.St → Hp → Prop) (h0 : Pv 0 σ H) (hl : ∀ i σ' H', i ≤ xs.length → Pv i σ' H' → SqT K H' p xs)
    (hs : ∀ i x σ' H', xs[i]? = some x → Pv i σ' H' → g x σ' H' fun σ2 H2 => tb1 ⟨Pv (i + 1), r, N, Pv (i + 1)⟩ σ2 H2) (hd : ∀ σ' H', Pv xs.length σ' H' → N σ' H') : zLoop (Itt K p) g tb1 ⟨N, r, b, c⟩ σ H :=
  for_tup (D := ⟨N, r, b, c⟩) (xs := xs) Pv h0 hl hs hd
def zBody (W : Nat → L2.St → Hp → Prop) (m : Nat) (tb : TS) (D : Ends) (σ : L2.St) (H1 : Hp) : Prop := ∃ N1 : L2.St → Hp → Prop, (∀ σ' H', N1 σ' H' → ∃ m', m' < m ∧ W m' σ' H') ∧ tb { D with nx := N1, ct := N1, bk := D.nx } σ H1
theorem s_zbody {W : Nat → L2.St → Hp → Prop} {m : Nat} {tb1 : TS} (h : tb1 ⟨fun σ2 H2 => ∃ m', m' < m ∧ W m' σ2 H2, r, N, fun σ2 H2 => ∃ m', m' < m ∧ W m' σ2 H2⟩ σ H) : zBody W m tb1 ⟨N, r, b, c⟩ σ H := ⟨_, fun σ2 H2 z => z, h⟩
theorem s_while {tb1 : TS} (W : Nat → L2.St → Hp → Prop) (m0 : Nat) (h0 : W m0 σ H)
    (hs : ∀ (m : Nat) σ' H', W m σ' H' → t σ' H' fun k H1 => zIf k (zBody W m tb1 ⟨N, r, b, c⟩ σ' H1) (N σ' H1)) : tWhile t tb1 ⟨N, r, b, c⟩ σ H := ⟨W, ⟨m0, h0⟩, fun m σ' H' w => hs m σ' H' w⟩
/-! ### heaps -/
theorem up_new {H : Hp} {q a : Addr} {o u : HO} (hq : H q = none) (h : H a = some o) : upd H q u a = some o := by rw [upd_ne (ne_of_none h hq)]; exact h
theorem up_far {H : Hp} {q a : Addr} {o u : HO} (hn : a ≠ q) (h : H a = some o) : upd H q u a = some o := by rw [upd_ne hn]; exact h
theorem sm_rd {H H' : Hp} {a : Addr} {o : HO} (S : Same H H') (h : H a = some o) : H' a = some o := S a o h
theorem same_new {H : Hp} {p : Addr} {o : HO} (h : H p = none) : Same H (upd H p o) := fun b u q => by rw [upd_ne (ne_of_none q h)]; exact q
def Fz : HO → Prop
  | .frz _ _ => True
  | _ => False
/-- all but what stands at p (and isn't locked) is as it was -/
def But (p : Addr) (H H' : Hp) : Prop := ∀ b o, (b ≠ p ∨ Fz o) → H b = some o → H' b = some o
theorem But.refl (p : Addr) (H : Hp) : But p H H := fun _ _ _ h => h
theorem But.trans {p : Addr} {H H1 H2 : Hp} (a : But p H H1) (b : But p H1 H2) : But p H H2 := fun c o n h => b c o n (a c o n h)
theorem But.rd {p : Addr} {H H' : Hp} {a : Addr} {o : HO} (S : But p H H') (n : a ≠ p) (h : H a = some o) : H' a = some o := S a o (.inl n) h
theorem But.of {p : Addr} {H H' : Hp} (S : Same H H') : But p H H' := fun b o _ h => S b o h
theorem But.up {p : Addr} {H H' : Hp} {o u : HO} (S : But p H H') (hp : H' p = some u) (nf : ¬ Fz u) : But p H (L2.upd H' p o) := fun b v n h => by
  have h' := S b v n h
  by_cases e : b = p
  · subst e
    rw [hp] at h'
    cases h'
    rcases n with n | n
    · exact absurd rfl n
    · exact absurd n nf
  · rw [upd_ne e]; exact h'
theorem But.new {p q : Addr} {H H' : Hp} {o : HO} (S : But p H H') (hq : H' q = none) : But p H (L2.upd H' q o) := fun b u n h => by rw [upd_ne (ne_of_none (S b u n h) hq)]; exact S b u n h
theorem But.none {p b : Addr} {H H' : Hp} (S : But p H H') (n : b ≠ p) (h : H' b = Option.none) : H b = Option.none := by
  cases e : H b with
  | none => rfl
  | some o => rw [S b o (.inl n) e] at h; cases h
theorem But.sqL {K : PySem.W.Frag} {p : Addr} {H H' : Hp} {a : Addr} {xs : List V} (S : But p H H') (n : a ≠ p) (h : SqL K H a xs) : SqL K H' a xs := by
  rcases h with (h | ⟨o, h⟩) | h
  · exact .inl (.inl (S _ _ (.inl n) h))
  · exact .inl (.inr ⟨o, S _ _ (.inl n) h⟩)
  · exact .inr h
theorem But.sqT {K : PySem.W.Frag} {p : Addr} {H H' : Hp} {a : Addr} {xs : List V} (S : But p H H') (n : a ≠ p) (h : SqT K H a xs) : SqT K H' a xs := by
  rcases h with (h | ⟨o, h⟩) | h
  · exact .inl (.inl (S _ _ (.inl n) h))
  · exact .inl (.inr ⟨o, S _ _ (.inl n) h⟩)
  · exact .inr h
theorem same_sqT {K : PySem.W.Frag} {H H' : Hp} {a : Addr} {xs : List V} (S : Same H H') (h : SqT K H a xs) : SqT K H' a xs := by
  rcases h with (h | ⟨o, h⟩) | h
  · exact .inl (.inl (S _ _ h))
  · exact .inl (.inr ⟨o, S _ _ h⟩)
  · exact .inr h
/-- the law's script: locked, or of the written part -/
def Scr (K : PySem.W.Frag) (H : Hp) (a : Addr) (ns : List Int) : Prop := (∃ o, H a = some (.frz o (.lst (ns.map V.int)))) ∨
  ∃ (o : Obj) (its : Array Value) (n : Nat), K.lookup a = some o ∧ o.cls = .type "list" ∧ o.dict = none ∧ o.data = .seq its n ∧ its.size ≤ sizeLine ∧ Vals (ns.map V.int) its.toList
theorem Scr.of {K : PySem.W.Frag} {H : Hp} {a : Addr} {ns : List Int} (h0 : Only H) (h : SqL K H a (ns.map V.int)) : Scr K H a ns := by
  rcases h with (h | ⟨o, h⟩) | h
  · rcases h0 a with e | ⟨o, xs, e⟩
    · rw [h] at e; cases e
    · rw [h] at e; cases e
  · exact .inl ⟨o, h⟩
  · exact .inr h
theorem Scr.sq {K : PySem.W.Frag} {H : Hp} {a : Addr} {ns : List Int} (h : Scr K H a ns) : SqL K H a (ns.map V.int) := by
  rcases h with ⟨o, h⟩ | h
  · exact .inl (.inr ⟨o, h⟩)
  · exact .inr h
theorem Scr.but {K : PySem.W.Frag} {H H' : Hp} {p a : Addr} {ns : List Int} (S : But p H H') (h : Scr K H a ns) : Scr K H' a ns := by
  rcases h with ⟨o, h⟩ | h
  · exact .inl ⟨o, S _ _ (.inr trivial) h⟩
  · exact .inr h
theorem Scr.same {K : PySem.W.Frag} {H H' : Hp} {a : Addr} {ns : List Int} (S : Same H H') (h : Scr K H a ns) : Scr K H' a ns := by
  rcases h with ⟨o, h⟩ | h
  · exact .inl ⟨o, S _ _ h⟩
  · exact .inr h
/-- a change of what stands at p, the heap behind it by a name -/
theorem up_but {H : Hp} {p : Addr} {o u : HO} (h : H p = some u) (nf : ¬ Fz u) : But p H (L2.upd H p o) := (But.refl p H).up h nf
theorem c_setL {N1 : Hp → Prop} (n : Nat) (ys : List V) (h1 : H p = some (.lst xs)) (h2 : ixN xs.length i = some n) (h3 : xs.set n v = ys) (h : ∀ H', But p H H' → H' p = some (.lst ys) → N1 H') : rSetL (.ref p) (.int i) v H N1 :=
  s_setL h1 h2 (h _ (up_but h1 (fun z => z)) (by rw [h3]; exact upd_same))
theorem c_acc {D : Addr} {acc : List V} {P : Hp → Prop} (h1 : H D = some (.lst acc)) (h2 : acc.length < sizeLine) (h : ∀ H', But D H H' → H' D = some (.lst (acc ++ [y])) → P H') : zAcc D y H P :=
  s_acc h1 h2 (h _ (up_but h1 (fun z => z)) upd_same)
theorem c_fld {C dx : Addr} {fs gs : List (Str × V)} {f : Str} {N1 : Hp → Prop} (h1 : H p = some (.ins C dx fs)) (hc : Cls K C) (hn : NoAttr K C f) (hl : fs.length < 1000) (h3 : putF f y fs = gs) (h : ∀ H', But p H H' → H' p = some (.ins C dx gs) → N1 H') : zPutF K (.ref p) f y H N1 :=
  s_zputF h1 hc hn hl (h _ (up_but h1 (fun z => z)) (by rw [h3]; exact upd_same))
theorem c_extend {b' : Addr} {zs : List V} (h1 : H p = some (.lst xs)) (h2 : H b' = some (.lst zs)) (h3 : xs.length + zs.length ≤ sizeLine) (h : ∀ H', But p H H' → H' p = some (.lst (xs ++ zs)) → Q .non H') : rExtend (.ref p) [.ref b'] H Q :=
  s_extend h1 h2 h3 (h _ (up_but h1 (fun z => z)) upd_same)
theorem c_clear (h1 : H p = some (.lst xs)) (h : ∀ H', But p H H' → H' p = some (.lst []) → Q .non H') : rClear (.ref p) [] H Q :=
  s_clear h1 (h _ (up_but h1 (fun z => z)) upd_same)
theorem c_pop {z : V} (h1 : H p = some (.lst xs)) (h2 : xs[xs.length - 1]? = some z) (h : ∀ H', But p H H' → H' p = some (.lst xs.dropLast) → Q z H') : rPop (.ref p) [] H Q :=
  s_pop h1 h2 (h _ (up_but h1 (fun z => z)) upd_same)
theorem c_reverse (h1 : H p = some (.lst xs)) (h : ∀ H', But p H H' → H' p = some (.lst xs.reverse) → Q .non H') : rReverse (.ref p) [] H Q :=
  s_reverse h1 (h _ (up_but h1 (fun z => z)) upd_same)
/-- all but what stands at p or q -/
def But2 (p q : Addr) (H H' : Hp) : Prop := ∀ b o, ((b ≠ p ∧ b ≠ q) ∨ Fz o) → H b = some o → H' b = some o
theorem But2.left {p q : Addr} {H H' : Hp} (B : But p H H') : But2 p q H H' := fun b o n h => B b o (n.imp And.left id) h
theorem But2.right {p q : Addr} {H H' : Hp} (B : But q H H') : But2 p q H H' := fun b o n h => B b o (n.imp And.right id) h
theorem But2.trans {p q : Addr} {H H1 H2 : Hp} (a : But2 p q H H1) (b : But2 p q H1 H2) : But2 p q H H2 := fun c o n h => b c o n (a c o n h)
theorem But2.of {p q : Addr} {H H' : Hp} (S : Same H H') : But2 p q H H' := fun b o _ h => S b o h
theorem But2.rd {p q : Addr} {H H' : Hp} {a : Addr} {o : HO} (S : But2 p q H H') (n : a ≠ p) (m : a ≠ q) (h : H a = some o) : H' a = some o := S a o (.inl ⟨n, m⟩) h
theorem But2.new {p q a : Addr} {H H' : Hp} {o : HO} (S : But2 p q H H') (ha : H' a = none) : But2 p q H (L2.upd H' a o) := S.trans (But2.of (same_new ha))
theorem But2.own {p q l : Addr} {H H1 H2 : Hp} (a : But2 p q H H1) (b : But l H1 H2) (hl : H l = none) : But2 p q H H2 := fun c o n h => b c o (.inl (ne_of_none h hl)) (a c o n h)
theorem But2.one {p q : Addr} {H H' : Hp} (B : But2 p q H H') (hq : H q = none) : But p H H' := fun c o n h => B c o (n.imp (fun z => ⟨z, ne_of_none h hq⟩) id) h
theorem But2.none {p q b : Addr} {H H' : Hp} (S : But2 p q H H') (n : b ≠ p) (m : b ≠ q) (h : H' b = Option.none) : H b = Option.none := by
  cases e : H b with
  | none => rfl
  | some o => rw [S b o (.inl ⟨n, m⟩) e] at h; cases h
theorem passC {X : Cx} (σ : L2.St) : PassesAt (L2.CX X.prog X.w) X σ (WE (fun _ _ _ _ => False) σ) := fun pins H s e s' I c => passL pins σ H s e s' I c
theorem c_append (h1 : H p = some (.lst xs)) (h2 : xs.length < sizeLine) (h : ∀ H', But p H H' → H' p = some (.lst (xs ++ [v])) → Q .non H') : rAppend (.ref p) [v] H Q :=
  s_append h1 h2 (h _ (up_but h1 (fun z => z)) upd_same)
/-- a change of what wasn't there at first -/
theorem But.own {p l : Addr} {H H1 H2 : Hp} (a : But p H H1) (b : But l H1 H2) (hl : H l = Option.none) : But p H H2 := fun c o n h => b c o (.inl (ne_of_none h hl)) (a c o n h)
theorem same_own {l : Addr} {H H1 H2 : Hp} (a : Same H H1) (b : But l H1 H2) (hl : H l = Option.none) : Same H H2 := fun c o h => b c o (.inl (ne_of_none h hl)) (a c o h)
/-- tuples stay -/
def TupS (H H' : Hp) : Prop := ∀ b ys, H b = some (.tup ys) → H' b = some (.tup ys)
theorem TupS.refl (H : Hp) : TupS H H := fun _ _ h => h
theorem TupS.trans {H H1 H2 : Hp} (a : TupS H H1) (b : TupS H1 H2) : TupS H H2 := fun c o h => b c o (a c o h)
theorem TupS.new {q : Addr} {H : Hp} {o : HO} (hq : H q = none) : TupS H (L2.upd H q o) := fun b ys h => same_new hq b _ h
theorem TupS.of {H H' : Hp} (S : Same H H') : TupS H H' := fun b _ h => S b _ h
theorem TupS.but {p : Addr} {H H' : Hp} {o : HO} (S : But p H H') (hp : H p = some o) (n : ∀ ys, o ≠ .tup ys) : TupS H H' := fun b ys h => S b _ (.inl fun e => by
  subst e
  rw [hp] at h
  exact n ys (Option.some.inj h)) h
theorem TupS.butN {p : Addr} {H H' : Hp} (S : But p H H') (hp : H p = none) : TupS H H' := fun b ys h => S b _ (.inl fun e => by
  subst e
  rw [hp] at h
  cases h) h
theorem But2.tups {p q : Addr} {H H' : Hp} {o u : HO} (B : But2 p q H H') (hp : H p = some o) (np : ∀ ys, o ≠ .tup ys) (hq : H q = some u) (nq : ∀ ys, u ≠ .tup ys) : TupS H H' := fun b ys h =>
  B b _ (.inl ⟨ne_of h hp (fun z => np ys z.symm), ne_of h hq (fun z => nq ys z.symm)⟩) h
/-- an item of a list of ints, at an open place within -/
theorem at_ints (ns : List Int) {i : Int} (h0 : 0 ≤ i) (h1 : i < ns.length) : ∃ w, w ∈ ns ∧ atI (ns.map V.int) i = some (.int w) := by
  refine ⟨ns[i.toNat]'(by omega), List.getElem_mem _, ?_⟩
  exact at_of (j := i.toNat) (by omega) (by rw [List.getElem?_map, List.getElem?_eq_getElem (by omega)]; rfl)
theorem putK_len {kvs : List (Key × V)} {k : Key} {v w : V} (h : valV kvs k = some w) : (putK kvs k v).length = kvs.length := by
  unfold putK
  rw [valV_any, h]
  simp
theorem valV_put_ne {kvs : List (Key × V)} {k j : Key} {v : V} (h : ¬ j = k) : valV (putK kvs k v) j = valV kvs j := by rw [valV_put, if_neg h]
theorem valV_put_eq {kvs : List (Key × V)} {k : Key} {v : V} : valV (putK kvs k v) k = some v := by rw [valV_put, if_pos rfl]
theorem c_dput_s {z : Str} {kvs : List (Key × V)} {N1 : Hp → Prop} (h1 : H p = some (.dK kvs)) (h2 : kvs.length < sizeLine) (h : ∀ H', But p H H' → H' p = some (.dK (putK kvs (Sum.inr z : Key) v)) → N1 H') : zDPut (.ref p) (.str z) v H N1 :=
  s_zDPut_s h1 h2 (h _ (up_but h1 (fun z => z)) upd_same)
theorem fdiv_abs (a b : Int) : (a.fdiv b).natAbs ≤ a.natAbs + 1 := Nat.le_succ_of_le (Int.natAbs_fdiv_le_natAbs a b)
/-! ### data: laid at most so deep -/
structure Sh (n : Nat) (d : PyData) : Prop where
  c : d.canLay0 = true
  d : d.depth ≤ n
theorem Sh.shaped {n : Nat} {d : PyData} (h : Sh n d) (hn : n ≤ 64) : SeqAt.shaped d = true := by
  unfold SeqAt.shaped
  rw [h.c, decide_eq_true (Nat.le_trans h.d hn)]
  rfl
theorem Sh.mono {n m : Nat} {d : PyData} (h : Sh n d) (hn : n ≤ m) : Sh m d := ⟨h.c, Nat.le_trans h.d hn⟩
theorem Sh.int {n : Nat} (i : Int) : Sh n (.int i) := ⟨rfl, Nat.zero_le _⟩
theorem Sh.non {n : Nat} : Sh n .none := ⟨rfl, Nat.zero_le _⟩
theorem Sh.bl {n : Nat} (b : Bool) : Sh n (.bool b) := ⟨rfl, Nat.zero_le _⟩
theorem Sh.str {n : Nat} {x : Str} (h : PyData.strOk x = true) : Sh n (.str x) := ⟨h, Nat.zero_le _⟩
theorem sh_all {n : Nat} : ∀ {ds : List PyData}, (∀ d ∈ ds, Sh n d) → PyData.canLayAll0 ds = true ∧ PyData.depthAll ds ≤ n
  | [], _ => ⟨rfl, Nat.zero_le _⟩
  | d :: ds, h => by
    have a := h d List.mem_cons_self
    have b := sh_all (ds := ds) fun e he => h e (List.mem_cons_of_mem _ he)
    refine ⟨?_, ?_⟩
    · show (d.canLay0 && PyData.canLayAll0 ds) = true
      rw [a.c, b.1]; rfl
    · show max d.depth (PyData.depthAll ds) ≤ n
      exact Nat.max_le.mpr ⟨a.d, b.2⟩
theorem Sh.list {n : Nat} {ds : List PyData} (h : ∀ d ∈ ds, Sh n d) : Sh (n + 1) (.list ds) := by
  have a := sh_all h
  refine ⟨?_, ?_⟩
  · show PyData.canLayAll0 ds = true
    exact a.1
  · show PyData.depthAll ds + 1 ≤ n + 1
    exact Nat.succ_le_succ a.2
theorem Sh.tup {n : Nat} {ds : List PyData} (h : ∀ d ∈ ds, Sh n d) : Sh (n + 1) (.tuple ds) := by
  have a := sh_all h
  refine ⟨?_, ?_⟩
  · show PyData.canLayAll0 ds = true
    exact a.1
  · show PyData.depthAll ds + 1 ≤ n + 1
    exact Nat.succ_le_succ a.2
theorem Sh.refl {n : Nat} {d : PyData} (h : Sh n d) : PyData.eqv d d = true := SeqAt.eqv_refl d h.c
theorem dp_ints {K : PySem.W.Frag} {H : Hp} : ∀ ns : List Int, DpAll K H (ns.map V.int) (ns.map PyData.int)
  | [] => .nil
  | _ :: ns => .cons (.int _) (dp_ints ns)
theorem sh_ints {n : Nat} (ns : List Int) : ∀ d ∈ ns.map PyData.int, Sh n d := fun d h => by
  obtain ⟨i, _, rfl⟩ := List.mem_map.mp h
  exact Sh.int i
/-- a promise that asks what never holds -/
theorem fn_none {P : Program} {w : World} {K : PySem.W.Frag} {mg : Str → Option Value} {base : Heap} {CX : CXT} {k : Nat} {f : Addr} {fd : FuncData} {ps : List Str} {sp : Sp} (h : ∀ vs H Q E, ¬ sp vs H Q E) : FnOk P w K mg base CX k f fd ps sp :=
  ⟨fun vs H Q E z => absurd z (h vs H Q E), fun A outer s H args us vs Q E _ _ _ _ z => absurd z (h vs H Q E)⟩
/-! ### specs by the number of arguments -/
def Sp0 (f : Hp → VK → XK → Prop) : Sp := fun vs H Q E => vs = [] ∧ f H Q E
def Sp1 (f : V → Hp → VK → XK → Prop) : Sp := fun vs H Q E => ∃ a, vs = [a] ∧ f a H Q E
def Sp2 (f : V → V → Hp → VK → XK → Prop) : Sp := fun vs H Q E => ∃ a b, vs = [a, b] ∧ f a b H Q E
def Sp3 (f : V → V → V → Hp → VK → XK → Prop) : Sp := fun vs H Q E => ∃ a b c, vs = [a, b, c] ∧ f a b c H Q E
def Sp4 (f : V → V → V → V → Hp → VK → XK → Prop) : Sp := fun vs H Q E => ∃ a b c d, vs = [a, b, c, d] ∧ f a b c d H Q E
def Sp5 (f : V → V → V → V → V → Hp → VK → XK → Prop) : Sp := fun vs H Q E => ∃ a b c d e, vs = [a, b, c, d, e] ∧ f a b c d e H Q E
end
end Z
/-! ### rows of values -/
namespace Z
open PySem PySem.Spec PyProof.Rows L2
def Row {α : Type} (R : α → V → Prop) (xs : List α) (vs : List V) : Prop := vs.length = xs.length ∧ ∀ (i : Nat) (x : α) (v : V), xs[i]? = some x → vs[i]? = some v → R x v
section
variable {α : Type} {R R' : α → V → Prop} {xs ys : List α} {vs ws : List V} {x : α} {v : V} {i : Nat}
theorem Row.nil : Row R [] [] := ⟨rfl, fun i x v h => by simp at h⟩
theorem Row.imp (h : Row R xs vs) (f : ∀ x v, x ∈ xs → R x v → R' x v) : Row R' xs vs := ⟨h.1, fun i x v a b => f _ _ (List.mem_of_getElem? a) (h.2 i x v a b)⟩
theorem Row.get (h : Row R xs vs) (e : xs[i]? = some x) : ∃ v, vs[i]? = some v ∧ R x v := by
  have hi := (List.getElem?_eq_some_iff.mp e).1
  have hj : i < vs.length := by rw [h.1]; exact hi
  exact ⟨vs[i], List.getElem?_eq_getElem hj, h.2 i x _ e (List.getElem?_eq_getElem hj)⟩
theorem Row.getv (h : Row R xs vs) (e : vs[i]? = some v) : ∃ x, xs[i]? = some x ∧ R x v := by
  have hi := (List.getElem?_eq_some_iff.mp e).1
  have hj : i < xs.length := by rw [← h.1]; exact hi
  exact ⟨xs[i], List.getElem?_eq_getElem hj, h.2 i _ v (List.getElem?_eq_getElem hj) e⟩
theorem Row.one (h : R x v) : Row R [x] [v] := ⟨rfl, fun i a b e f => by
  cases i with
  | zero => simp at e f; subst e; subst f; exact h
  | succ j => simp at e⟩
theorem Row.append (h : Row R xs vs) (g : Row R ys ws) : Row R (xs ++ ys) (vs ++ ws) := ⟨by rw [List.length_append, List.length_append, h.1, g.1], fun i a b e f => by
  by_cases c : i < xs.length
  · rw [List.getElem?_append_left c] at e
    rw [List.getElem?_append_left (by rw [h.1]; exact c)] at f
    exact h.2 i a b e f
  · rw [List.getElem?_append_right (by omega)] at e
    rw [List.getElem?_append_right (by rw [h.1]; omega), h.1] at f
    exact g.2 _ a b e f⟩
theorem Row.app (h : Row R xs vs) (g : R x v) : Row R (xs ++ [x]) (vs ++ [v]) := h.append (Row.one g)
theorem Row.cons (g : R x v) (h : Row R xs vs) : Row R (x :: xs) (v :: vs) := (Row.one g).append h
theorem Row.uncons {l : List V} (h : Row R (x :: xs) l) : ∃ v vs, l = v :: vs ∧ R x v ∧ Row R xs vs := by
  cases l with
  | nil => have := h.1; simp at this
  | cons v vs => exact ⟨v, vs, rfl, h.2 0 _ _ rfl rfl, by have := h.1; simpa using this, fun i a b e f => h.2 (i + 1) a b (by simpa using e) (by simpa using f)⟩
theorem Row.set (h : Row R xs vs) (g : R x v) : Row R (xs.set i x) (vs.set i v) := ⟨by rw [List.length_set, List.length_set, h.1], fun j a b e f => by
  by_cases c : i = j
  · subst c
    have hi := (List.getElem?_eq_some_iff.mp e).1
    rw [List.length_set] at hi
    rw [List.getElem?_set_self hi] at e
    rw [List.getElem?_set_self (by rw [h.1]; exact hi)] at f
    cases e; cases f; exact g
  · rw [List.getElem?_set_ne c] at e f
    exact h.2 j a b e f⟩
theorem Row.take (n : Nat) (h : Row R xs vs) : Row R (xs.take n) (vs.take n) := ⟨by rw [List.length_take, List.length_take, h.1], fun j a b e f => by
  rw [List.getElem?_take] at e f
  split at e
  · rename_i c; rw [if_pos c] at f; exact h.2 j a b e f
  · cases e⟩
theorem Row.drop (n : Nat) (h : Row R xs vs) : Row R (xs.drop n) (vs.drop n) := ⟨by rw [List.length_drop, List.length_drop, h.1], fun j a b e f => by
  rw [List.getElem?_drop] at e f
  exact h.2 _ a b e f⟩
theorem Row.len (h : Row R xs vs) : vs.length = xs.length := h.1
theorem Row.mp {β : Type} {f : β → α} {bs : List β} (h : Row R (bs.map f) vs) : Row (fun b v => R (f b) v) bs vs := ⟨by rw [h.1, List.length_map], fun i b v e g => h.2 i _ v (by rw [List.getElem?_map, e]; rfl) g⟩
theorem Row.mpr {β : Type} {f : β → α} {bs : List β} (h : Row (fun b v => R (f b) v) bs vs) : Row R (bs.map f) vs := ⟨by rw [h.1, List.length_map], fun i a v e g => by
  rw [List.getElem?_map] at e
  obtain ⟨b, e1, rfl⟩ := Option.map_eq_some_iff.mp e
  exact h.2 i b v e1 g⟩
end
/-- a tuple of ints -/
def TupI (H : Hp) (x : List Int) (v : V) : Prop := ∃ t, v = .ref t ∧ H t = some (.tup (x.map V.int))
def TupsAt (H : Hp) (xss : List (List Int)) (vs : List V) : Prop := Row (TupI H) xss vs
theorem TupI.mono {H H' : Hp} {x : List Int} {v : V} (S : TupS H H') (h : TupI H x v) : TupI H' x v := by
  obtain ⟨t, rfl, e⟩ := h
  exact ⟨t, rfl, S _ _ e⟩
theorem TupsAt.mono {H H' : Hp} {xss : List (List Int)} {vs : List V} (S : TupS H H') (h : TupsAt H xss vs) : TupsAt H' xss vs := Row.imp h fun _ _ _ r => r.mono S
/-- a list or a tuple of ints -/
def SeqI (K : PySem.W.Frag) (H : Hp) (x : List Int) (v : V) : Prop := ∃ t, v = .ref t ∧ (SqL K H t (x.map V.int) ∨ SqT K H t (x.map V.int))
theorem SeqI.same {K : PySem.W.Frag} {H H' : Hp} {x : List Int} {v : V} (S : Same H H') (h : SeqI K H x v) : SeqI K H' x v := by
  obtain ⟨t, rfl, e | e⟩ := h
  · exact ⟨t, rfl, .inl (S.seq e)⟩
  · exact ⟨t, rfl, .inr (same_sqT S e)⟩
theorem TupI.seq {K : PySem.W.Frag} {H : Hp} {x : List Int} {v : V} (h : TupI H x v) : SeqI K H x v := by
  obtain ⟨t, rfl, e⟩ := h
  exact ⟨t, rfl, .inr (SqT.of e)⟩
theorem tups_dp {K : PySem.W.Frag} {H : Hp} : ∀ {xss : List (List Int)} {vs : List V}, TupsAt H xss vs → DpAll K H vs (xss.map fun x => PyData.tuple (x.map PyData.int))
  | [], vs, h => by
    cases vs with
    | nil => exact .nil
    | cons _ _ => have := h.1; simp at this
  | x :: xss, vs, h => by
    obtain ⟨v, r, rfl, ⟨t, rfl, e⟩, g⟩ := Row.uncons h
    exact .cons (.tup (SqT.of e) (dp_ints x)) (tups_dp g)
theorem sh_tups {n : Nat} (xss : List (List Int)) : ∀ d ∈ xss.map (fun x => PyData.tuple (x.map PyData.int)), Sh (n + 1) d := fun d h => by
  obtain ⟨x, _, rfl⟩ := List.mem_map.mp h
  exact Sh.tup (sh_ints x)
/-- a pen: a list of a script and of numbers -/
def Pn (K : PySem.W.Frag) (n : Nat) (H : Hp) (p : Addr) : Prop := ∃ (sa : Addr) (ns ks : List Int), Scr K H sa ns ∧ ks.length = n ∧ (∀ x ∈ ks, 0 ≤ x) ∧ H p = some (.lst (.ref sa :: ks.map V.int))
section
variable {K : PySem.W.Frag} {H H' : Hp} {p q : Addr} {n : Nat} {o : HO}
theorem Pn.ne (h : Pn K n H p) (hq : H q = none) : q ≠ p := by
  obtain ⟨sa, ns, ks, hS, hl, hk, hp⟩ := h
  exact (ne_of_none hp hq).symm
theorem Pn.but (h : Pn K n H p) (B : But q H H') (m : p ≠ q) : Pn K n H' p := by
  obtain ⟨sa, ns, ks, hS, hl, hk, hp⟩ := h
  exact ⟨sa, ns, ks, hS.but B, hl, hk, B _ _ (.inl m) hp⟩
theorem Pn.butN (h : Pn K n H p) (B : But q H H') (m : q ≠ p) : Pn K n H' p := h.but B m.symm
theorem Pn.same (h : Pn K n H p) (S : Same H H') : Pn K n H' p := by
  obtain ⟨sa, ns, ks, hS, hl, hk, hp⟩ := h
  exact ⟨sa, ns, ks, hS.same S, hl, hk, S _ _ hp⟩
theorem Pn.new (h : Pn K n H p) (hq : H q = none) : Pn K n (upd H q o) p := h.same (same_new hq)
theorem Pn.tups (h : Pn K n H p) (B : But p H H') : TupS H H' := by
  obtain ⟨sa, ns, ks, hS, hl, hk, hp⟩ := h
  exact TupS.but B hp fun ys e => by cases e
theorem Pn.nei (h : Pn K n H p) {xs : List Int} (hq : H q = some (.lst (xs.map V.int))) : q ≠ p := by
  obtain ⟨sa, ns, ks, hS, hl, hk, hp⟩ := h
  exact ne_of hq hp (by
    intro z
    injection z with z
    cases xs with
    | nil => cases z
    | cons x xs => injection z with z _; cases z)
theorem Pn.net (h : Pn K n H p) {xs : List V} (hq : H q = some (.tup xs)) : q ≠ p := by
  obtain ⟨sa, ns, ks, hS, hl, hk, hp⟩ := h
  exact ne_of hq hp (by intro z; cases z)
end
theorem TupS.butL {p : Addr} {H H' : Hp} {xs : List V} (S : But p H H') (hp : H p = some (.lst xs)) : TupS H H' := TupS.but S hp fun ys e => by cases e
/-- is, of None or of truths -/
def rIsU : R2 := fun x y H Q => rIsNz x y H Q ∨ rIsB x y H Q
def rNotU : R2 := fun x y H Q => rNotNz x y H Q ∨ rNotB x y H Q
theorem op_isU {X : Cx} : OpR X (compareOp .Is) rIsU := OpR.or op_isNz op_isBl
theorem op_notU {X : Cx} : OpR X (compareOp .IsNot) rNotU := OpR.or op_notNz op_notBl
section
variable {K : PySem.W.Frag} {σ : L2.St} {H : Hp} {Q : VK} {N b c : L2.St → Hp → Prop} {r : VK} {te : TE} {x y : V} {i : Int} {n : Nat} {p q : Addr} {xs : List V} {j k : Bool}
theorem s_isU_n (h : rIsNz x .non H Q) : rIsU x .non H Q := .inl h
theorem s_notU_n (h : rNotNz x .non H Q) : rNotU x .non H Q := .inl h
theorem s_isU_b (h : Q (.bl (decide (j = k))) H) : rIsU (.bl j) (.bl k) H Q := .inr ⟨j, k, rfl, rfl, h⟩
theorem s_notU_b (h : Q (.bl (!decide (j = k))) H) : rNotU (.bl j) (.bl k) H Q := .inr ⟨j, k, rfl, rfl, h⟩
/-- an item of a literal list of ints -/
theorem s_ixI (ns : List Int) (h1 : SqL K H p xs) (e : xs = ns.map V.int) (h2 : 0 ≤ i) (h3 : i < ns.length) (h : ∀ w, w ∈ ns → ns[i.toNat]? = some w → Q (.int w) H) : rIx K (.ref p) (.int i) H Q := by
  subst e
  have hl : i.toNat < ns.length := by omega
  refine s_ix_l h1 (v := .int ns[i.toNat]) (at_of (j := i.toNat) (by omega) (by rw [List.getElem?_map, List.getElem?_eq_getElem hl]; rfl)) ?_
  exact h _ (List.getElem_mem _) (List.getElem?_eq_getElem hl)
theorem s_ixN {ns : List V} {m : Nat} {v : V} (h1 : SqL K H p ns) (h2 : ns[m]? = some v) (h : Q v H) : rIx K (.ref p) (.int (m : Int)) H Q := s_ix_l h1 (atI_nat h2) h
theorem s_ixTN {ns : List V} {m : Nat} {v : V} (h1 : SqT K H p ns) (h2 : ns[m]? = some v) (h : Q v H) : rIx K (.ref p) (.int (m : Int)) H Q := s_ix_t h1 (atI_nat h2) h
end
section
variable {K : PySem.W.Frag} {H : Hp} {Q : VK} {p q a : Addr} {xs : List V} {i : Int} {x : V} {te : TE} {σ : L2.St}
theorem tyx_l (h : SqL K H p xs) : TyX K H (.ref p) (.type "list") := by
  rcases h with (h | ⟨o, h⟩) | ⟨o, its, n, h, hc, _⟩
  · exact .base (.lst h)
  · exact .base (.frz h)
  · exact .kList h hc
theorem tyx_t (h : SqT K H p xs) : TyX K H (.ref p) (.type "tuple") := by
  rcases h with (h | ⟨o, h⟩) | ⟨o, its, n, h, hc, _⟩
  · exact .base (.tup h)
  · exact .fTuple h
  · exact .kTuple h hc
theorem kit_any2 {K : PySem.W.Frag} {a b c : String} {r r' : Bool} (h1 : kitB a b = some r) (h2 : kitB a c = some r') : PySem.W.kitAny K (.type a) [.type b, .type c] = some (r || r') := by
  unfold PySem.W.kitAny
  have e1 := kit_ty (K := K) h1
  have e2 := kit_ty (K := K) h2
  show (match PySem.W.kitOne K (.type a) (.type b) with | some true => some true | some false => PySem.W.kitAny K (.type a) [.type c] | none => none) = _
  rw [e1]
  cases r with
  | true => rfl
  | false =>
    show (match PySem.W.kitOne K (.type a) (.type c) with | some true => some true | some false => some false | none => none) = _
    rw [e2]
    cases r' <;> rfl
theorem s_isiT {cs : List V} {t : Value} {us : List Value} {bb : Bool} (h1 : H q = some (.tup cs)) (h2 : Paired ClsV cs us) (h3 : TyX K H x t) (h4 : PySem.W.kitAny K t us = some bb) (h : Q (.bl bb) H) : rIsi2 K [x, .ref q] H Q := .inr ⟨x, q, cs, t, us, bb, rfl, h1, h2, h3, h4, h⟩
theorem isi_lt_l (h1 : H q = some (.tup [.ty "list", .ty "tuple"])) (h2 : SqL K H p xs) (h : Q (.bl true) H) : rIsi2 K [.ref p, .ref q] H Q :=
  s_isiT h1 (.cons (.ty _) (.cons (.ty _) .nil)) (tyx_l h2) (kit_any2 (r := true) (r' := false) (by decide +kernel) (by decide +kernel)) h
theorem isi_lt_t (h1 : H q = some (.tup [.ty "list", .ty "tuple"])) (h2 : SqT K H p xs) (h : Q (.bl true) H) : rIsi2 K [.ref p, .ref q] H Q :=
  s_isiT h1 (.cons (.ty _) (.cons (.ty _) .nil)) (tyx_t h2) (kit_any2 (r := false) (r' := true) (by decide +kernel) (by decide +kernel)) h
theorem isi_list (h2 : SqL K H p xs) (h : Q (.bl true) H) : rIsi2 K [.ref p, .ty "list"] H Q := s_isi (bb := true) (.ty _) (tyx_l h2) (kit_ty (by decide +kernel)) h
theorem isi_tup (h2 : SqT K H p xs) (h : Q (.bl true) H) : rIsi2 K [.ref p, .ty "tuple"] H Q := s_isi (bb := true) (.ty _) (tyx_t h2) (kit_ty (by decide +kernel)) h
theorem isi_int (h : Q (.bl true) H) : rIsi2 K [.int i, .ty "int"] H Q := s_isi (bb := true) (.ty _) (.base (.int i)) (kit_ty (by decide +kernel)) h
theorem isi_int_bool (h : Q (.bl false) H) : rIsi2 K [.int i, .ty "bool"] H Q := s_isi (bb := false) (.ty _) (.base (.int i)) (kit_ty (by decide +kernel)) h
/-- for x in a list or a tuple -/
def iUn (K : PySem.W.Frag) (te : TE) : TI := fun σ H R => iList K te σ H R ∨ iTup K te σ H R
theorem pi_un {X : Cx} {tg e : Expr} {te : TE} (h : PE X e te) : PI X tg e (iUn X.K te) :=
  ⟨fun pins s σ H R I z => z.elim (fun z => (pi_list h).run pins s σ H R I z) fun z => (pi_tup h).run pins s σ H R I z⟩
theorem s_iun_l {R : It → Hp → Prop} (h : te σ H fun x H1 => zItL K x H1 R) : iUn K te σ H R := .inl h
theorem s_iun_t {R : It → Hp → Prop} (h : te σ H fun x H1 => zItT K x H1 R) : iUn K te σ H R := .inr h
end
/-- a list or a tuple that is gone through -/
def SqB (K : PySem.W.Frag) : Bool → Hp → Addr → List V → Prop
  | true, H, p, xs => SqL K H p xs
  | false, H, p, xs => SqT K H p xs
def Itu (K : PySem.W.Frag) (p : Addr) : Bool → It
  | true => Itl K p
  | false => Itt K p
theorem SqB.same {K : PySem.W.Frag} {k : Bool} {H H' : Hp} {p : Addr} {xs : List V} (S : Same H H') (h : SqB K k H p xs) : SqB K k H' p xs := by
  cases k with
  | true => exact S.seq h
  | false => exact same_sqT S h
theorem SqB.but {K : PySem.W.Frag} {k : Bool} {H H' : Hp} {p q : Addr} {xs : List V} (B : But q H H') (n : p ≠ q) (h : SqB K k H p xs) : SqB K k H' p xs := by
  cases k with
  | true => exact B.sqL n h
  | false => exact B.sqT n h
section
variable {K : PySem.W.Frag} {H : Hp} {Q : VK} {p q a : Addr} {xs : List V} {i : Int} {x : V} {te : TE} {σ : L2.St} {k : Bool} {g : TG} {N b c : L2.St → Hp → Prop} {r : VK} {t : TT} {n : Nat}
theorem s_iunV {R : It → Hp → Prop} (h : SqL K H p xs ∨ SqT K H p xs) (hv : σ[n]? = some (some (.ref p))) (hR : ∀ k, SqB K k H p xs → R (Itu K p k) H) : iUn K (tVar n) σ H R :=
  h.elim (fun z => .inl ⟨_, hv, p, rfl, ⟨xs, z⟩, hR true z⟩) fun z => .inr ⟨_, hv, p, rfl, ⟨xs, z⟩, hR false z⟩
theorem loop_un {tb1 : TS} (xs : List V) (Pv : Nat → L2.St → Hp → Prop) (h0 : Pv 0 σ H) (hl : ∀ i σ' H', i ≤ xs.length → Pv i σ' H' → SqB K k H' p xs)
    (hs : ∀ i x σ' H', xs[i]? = some x → Pv i σ' H' → g x σ' H' fun σ2 H2 => tb1 ⟨Pv (i + 1), r, N, Pv (i + 1)⟩ σ2 H2) (hd : ∀ σ' H', Pv xs.length σ' H' → N σ' H') : zLoop (Itu K p k) g tb1 ⟨N, r, b, c⟩ σ H := by
  cases k with
  | true => exact loop_list xs Pv h0 hl hs hd
  | false => exact loop_tup xs Pv h0 hl hs hd
theorem lc_un {vs : List Nat} (xs : List V) (Pv : Addr → Nat → Hp → Prop) (h0 : ∀ D, H D = none → Pv D 0 (upd H D (.lst []))) (hl : ∀ D i H', H D = none → i ≤ xs.length → Pv D i H' → SqB K k H' p xs)
    (hs : ∀ D i x H', H D = none → xs[i]? = some x → Pv D i H' → g x (wipe σ vs) H' fun σ2 H2 => zWipe vs σ σ2 (t σ2 H2 fun k H3 => zIf k (te σ2 H3 fun y H4 => zAcc D y H4 (Pv D (i + 1))) (Pv D (i + 1) H3)))
    (hd : ∀ D H', H D = none → Pv D xs.length H' → Q (.ref D) H') : zLc (Itu K p k) g t te vs σ H Q := by
  cases k with
  | true => exact lc_lst xs Pv h0 hl hs hd
  | false => exact lc_tp xs Pv h0 hl hs hd
/-- in a list or a tuple -/
theorem s_ixU {z : Int} {v : V} (h1 : SqL K H p xs ∨ SqT K H p xs) (h2 : atI xs z = some v) (h : Q v H) : rIx K (.ref p) (.int z) H Q := h1.elim (fun y => s_ix_l y h2 h) fun y => s_ix_t y h2 h
theorem s_lenU (h1 : SqL K H p xs ∨ SqT K H p xs) (h : Q (.int xs.length) H) : rLen K [.ref p] H Q := h1.elim (fun y => s_len_l y h) fun y => s_len_t y h
theorem s_gunU {tg : TGs} {NN : L2.St → Hp → Prop} (hs : SqL K H p xs ∨ SqT K H p xs) (hl : xs.length = n) (h : tg xs σ H NN) : gUn K n tg (.ref p) σ H NN := hs.elim (fun y => s_gun_l y hl h) fun y => s_gun_t y hl h
theorem s_listU (h1 : SqL K H p xs ∨ SqT K H p xs) (h : ∀ l, H l = none → Q (.ref l) (upd H l (.lst xs))) : rListOf K [.ref p] H Q := h1.elim (fun y => s_listof_l y h) fun y => s_listof_t y h
theorem isi_ltU (h1 : H q = some (.tup [.ty "list", .ty "tuple"])) (h2 : SqL K H p xs ∨ SqT K H p xs) (h : Q (.bl true) H) : rIsi2 K [.ref p, .ref q] H Q := h2.elim (fun y => isi_lt_l h1 y h) fun y => isi_lt_t h1 y h
end
theorem seqU_same {K : PySem.W.Frag} {H H' : Hp} {p : Addr} {xs : List V} (S : Same H H') (h : SqL K H p xs ∨ SqT K H p xs) : SqL K H' p xs ∨ SqT K H' p xs := h.imp S.seq (same_sqT S)
theorem seqU_but {K : PySem.W.Frag} {H H' : Hp} {p q : Addr} {xs : List V} (B : But q H H') (n : p ≠ q) (h : SqL K H p xs ∨ SqT K H p xs) : SqL K H' p xs ∨ SqT K H' p xs := h.imp (B.sqL n) (B.sqT n)
theorem inV_ints (i : Int) (ns : List Int) : inV (.int i) (ns.map V.int) = decide (i ∈ ns) := by
  unfold inV
  induction ns with
  | nil => simp
  | cons a ns ih =>
    rw [List.map_cons, List.any_cons, ih]
    have : eqV (.int a) (.int i) = decide (i = a) := by
      show (a == i) = _
      by_cases c : i = a
      · subst c; simp
      · rw [decide_eq_false c]; simpa using fun z => c z.symm
    rw [this]
    by_cases c : i = a <;> simp [c]
theorem cut_takeI (ys : List Int) (j : Nat) : cutV (ys.map V.int) none (some (j : Int)) = (ys.take j).map V.int := by
  unfold cutV
  rw [HT.sIx_none, HT.sIx_nat, List.drop_zero, Nat.sub_zero, List.length_map, ← List.map_take]
  congr 1
  by_cases h : j ≤ ys.length
  · rw [Nat.min_eq_left h]
  · rw [Nat.min_eq_right (by omega), List.take_of_length_le (by omega), List.take_of_length_le (by omega)]
theorem cut_dropI (ys : List Int) (j : Nat) : cutV (ys.map V.int) (some (j : Int)) none = (ys.drop j).map V.int := by
  unfold cutV
  rw [HT.sIx_none, HT.sIx_nat, List.length_map]
  by_cases h : j ≤ ys.length
  · rw [Nat.min_eq_left h, ← List.map_drop, List.take_of_length_le (by rw [List.length_map, List.length_drop]; omega)]
  · rw [Nat.min_eq_right (by omega), List.drop_eq_nil_of_le (by rw [List.length_map]; omega), List.drop_eq_nil_of_le (by omega)]
    simp
theorem SqB.of {K : PySem.W.Frag} {H : Hp} {p : Addr} {xs : List V} (h : SqL K H p xs ∨ SqT K H p xs) : ∃ k, SqB K k H p xs := h.elim (fun z => ⟨true, z⟩) fun z => ⟨false, z⟩
theorem SqB.or {K : PySem.W.Frag} {H : Hp} {p : Addr} {xs : List V} {k : Bool} (h : SqB K k H p xs) : SqL K H p xs ∨ SqT K H p xs := by
  cases k with
  | true => exact .inl h
  | false => exact .inr h
theorem s_iunB {K : PySem.W.Frag} {σ : L2.St} {H : Hp} {n : Nat} {p : Addr} {xs : List V} {k : Bool} {R : It → Hp → Prop} (h : SqB K k H p xs) (hv : σ[n]? = some (some (.ref p))) (hR : R (Itu K p k) H) : iUn K (tVar n) σ H R := by
  cases k with
  | true => exact .inl ⟨_, hv, p, rfl, ⟨xs, h⟩, hR⟩
  | false => exact .inr ⟨_, hv, p, rfl, ⟨xs, h⟩, hR⟩
theorem ixN_nat {n i : Nat} (h : i < n) : ixN n (i : Int) = some i := by
  unfold ixN
  rw [if_pos (by omega), if_pos (by omega), Int.toNat_natCast]
theorem s_iunE {K : PySem.W.Frag} {σ : L2.St} {H : Hp} {p : Addr} {xs : List V} {k : Bool} {te : TE} {R : It → Hp → Prop} (hte : ∀ Q : VK, Q (.ref p) H → te σ H Q) (h : SqB K k H p xs) (hR : R (Itu K p k) H) : iUn K te σ H R := by
  cases k with
  | true => exact .inl (hte _ ⟨p, rfl, ⟨xs, h⟩, hR⟩)
  | false => exact .inr (hte _ ⟨p, rfl, ⟨xs, h⟩, hR⟩)
theorem s_tupU {K : PySem.W.Frag} {H : Hp} {p : Addr} {xs : List V} {Q : VK} (h1 : SqL K H p xs ∨ SqT K H p xs) (h : ∀ l H', Same H H' → SqT K H' l xs → Q (.ref l) H') : rTupOf K [.ref p] H Q :=
  h1.elim (fun y => s_tupof_l y fun l hl => h l _ (same_new hl) (SqT.of upd_same)) fun y => s_tupof_t y (h p H (Same.refl _) y)
theorem at_neg1 {xs : List V} {v : V} (h : xs[xs.length - 1]? = some v) : atI xs (-1) = some v := by
  have hl := (List.getElem?_eq_some_iff.mp h).1
  have e : ixN xs.length (-1) = some (xs.length - 1) := by
    unfold ixN
    rw [if_neg (by omega), if_pos (by omega)]
    congr 1
    omega
  unfold atI
  rw [e]
  exact h
theorem sqL_ins {K : PySem.W.Frag} {H H' : Hp} {p l : Addr} {o : HO} {xs : List V} (hp : H p = some o) (no : ∀ ys, o ≠ .lst ys) (B : But p H H') (h : SqL K H l xs) : SqL K H' l xs := by
  rcases h with (h | ⟨u, h⟩) | h
  · exact .inl (.inl (B _ _ (.inl (ne_of h hp fun z => no _ z.symm)) h))
  · exact .inl (.inr ⟨u, B _ _ (.inr trivial) h⟩)
  · exact .inr h
theorem s_cutT {K : PySem.W.Frag} {H : Hp} {Q : VK} {a : Addr} {xs : List V} {lo hi : Option Int} (h1 : SqT K H a xs) (hn : ¬ (HT.sIx xs.length 0 lo = 0 ∧ HT.sIx xs.length xs.length hi = xs.length)) (h : ∀ p, H p = none → Q (.ref p) (upd H p (.tup (cutV xs lo hi)))) : rSlU K (.ref a) lo hi H Q :=
  .inr ⟨a, xs, rfl, h1, fun z => absurd z hn, fun _ => h⟩
theorem s_cutTw {K : PySem.W.Frag} {H : Hp} {Q : VK} {a : Addr} {xs : List V} {lo hi : Option Int} (h1 : SqT K H a xs) (hn : HT.sIx xs.length 0 lo = 0 ∧ HT.sIx xs.length xs.length hi = xs.length) (h : Q (.ref a) H) : rSlU K (.ref a) lo hi H Q :=
  .inr ⟨a, xs, rfl, h1, fun _ => h, fun z => absurd hn z⟩
theorem cut_front {xs : List V} {v : V} : cutV (xs ++ [v]) none (some (-1)) = xs := by
  have e : HT.sIx (xs ++ [v]).length (xs ++ [v]).length (some (-1)) = xs.length := by
    show (if (-1 : Int) < 0 then ((-1 : Int) + ((xs ++ [v]).length : Int)).toNat else min (-1 : Int).toNat (xs ++ [v]).length) = _
    rw [if_pos (by decide), List.length_append, List.length_singleton]
    omega
  unfold cutV
  rw [e]
  show List.take (xs.length - 0) (List.drop 0 _) = _
  rw [Nat.sub_zero, List.drop_zero, List.take_left]
/-! ### d.update(d2); ValueError.__init__ -/
theorem find_vei {K : PySem.W.Frag} : PySem.W.findCls K (.type "ValueError") (.type "type") "__init__" = some (.val (.builtin "ValueError.__init__")) := by kernel_rfl
def tDUpd (td ty : TE) : TE := fun σ H Q => td σ H fun x H1 => ∃ a, x = .ref a ∧ IsD H1 a ∧ ty σ H1 fun y H2 => ∃ (b : Addr) (kvs more : List (Key × V)), y = .ref b ∧ a ≠ b ∧ H2 a = some (.dK kvs) ∧ H2 b = some (.dK more) ∧ kvs.length + more.length ≤ 1000 ∧ Q .non (upd H2 a (.dK (mergeK kvs more)))
section
variable {X : Cx} {pins : List (Addr × Obj)} {σ : L2.St} {H : Hp} {s : Shared} {a b : Addr} {kvs more : List (Key × V)} {A : Around} {E : Value → Shared → Prop}
theorem d_update {Q : Value → Shared → Prop} (I : Inv X pins σ H s) (e : H a = some (.dK kvs)) (e2 : H b = some (.dK more)) (ne : a ≠ b) (hl : kvs.length + more.length ≤ 1000)
    (h : ∀ s', Inv X pins σ (upd H a (.dK (mergeK kvs more))) s' → Q .none s') : wpAny (model X.prog X.w) A (call (.builtin "dict.update") [.ref a, .ref b]) Q E s := by
  obtain ⟨z, hd, vs, rel, dd⟩ := dk_of I.hok e
  obtain ⟨z2, hd2, ws, rel2, dd2⟩ := dk_of I.hok e2
  have hz : vs.length + ws.length ≤ sizeLine := by
    rw [← rel.length, ← rel2.length]
    rw [sizeLine_eq]
    omega
  refine call_meetsIn PySem.F.slot_dict_update dd.typeIs PySem.F.entry_dict_update (PySem.F.args_dict_update_2 _ _) (meets_dict_update (mixKind X.prog X.w) a b ne hd2) ⟨vs, ws, dd, dd2, hz, fun h' dd' _ hs => h _ ?_⟩
  have he : ∃ q, h'.get? a = some q := let ⟨q, _, _, hq, _⟩ := dd'; ⟨q, hq⟩
  have hlen : (mergeK kvs more).length ≤ sizeLine := by
    refine Nat.le_trans (length_mergeK more kvs) ?_
    rw [sizeLine_eq]
    omega
  exact d_write (t' := s.toks) I (by rw [e]; exact True.intro) hs he (dk_new hlen hd (KV.merge rel2 rel) dd')
end
section
variable {X : Cx} {o e : Expr} {apos cpos : Pos} {td ty : TE}
theorem pe_dupd (ho : PE X o td) (he : PE X e ty) (m : M1 X o "update" apos e cpos) : PE X (.Call (.Attribute o "update" apos) [e] [] cpos) (tDUpd td ty) := by
  refine ⟨fun pins s σ H Q I h => ?_⟩
  refine wpAny_Call_method m.base m.few m.line PySem.F.plainAttrs_dict PySem.F.slot_dict_update PySem.F.type_dict_update (thn (ho.run pins s σ H _ I h) fun u s1 ⟨x, H1, I1, rx, a, ex, d, q1⟩ => ?_)
  subst ex
  obtain rfl : u = Value.ref a := rx
  obtain ⟨t1, t2, _⟩ := isD_at I1 d
  refine ⟨t1, t2, ?_⟩
  rw [m.trees]
  refine Calls.callWith_builtin rfl (Calls.evalArgs_plain (Calls.spliced_cons (thn (he.run pins s1 σ H1 _ I1 q1) fun iv s2 ⟨y, H2, I2, ry, b, kvs, more, ey, ne, ea, eb, hl, q2⟩ => Calls.spliced_nil ?_)))
  subst ey
  obtain rfl : iv = Value.ref b := ry
  exact d_update I2 ea eb ne hl fun s3 I3 => ⟨.non, _, I3, rfl, q2⟩
end
theorem s_dupd {td ty : TE} {σ : L2.St} {H : Hp} {Q : VK} (h : td σ H fun x H1 => ∃ a, x = .ref a ∧ IsD H1 a ∧ ty σ H1 fun y H2 => ∃ (b : Addr) (kvs more : List (Key × V)), y = .ref b ∧ a ≠ b ∧ H2 a = some (.dK kvs) ∧ H2 b = some (.dK more) ∧ kvs.length + more.length ≤ 1000 ∧ Q .non (upd H2 a (.dK (mergeK kvs more)))) : tDUpd td ty σ H Q := h
/-- list(range(n)) -/
def zRgL (x : V) (H : Hp) (Q : VK) : Prop := ∃ n, x = .int n ∧ RgOk 0 n ∧ ∀ q, H q = none → Q (.ref q) (upd H q (.lst (rgV 0 n)))
theorem s_lstRg {ta : TE} {σ : L2.St} {H : Hp} {Q : VK} (h : ta σ H fun x H1 => zRgL x H1 Q) : tLstRg (tRg1 ta) σ H Q := h
theorem s_zRgL {n : Int} {H : Hp} {Q : VK} (h1 : 0 ≤ n ∧ n ≤ 1000000) (h : ∀ q, H q = none → Q (.ref q) (upd H q (.lst (((List.range n.toNat).map fun i : Nat => (i : Int)).map V.int)))) : zRgL (.int n) H Q :=
  ⟨n, rfl, ⟨by omega, by omega, by omega, by omega, by omega⟩, fun q hq => by
    have e : rgV 0 n = ((List.range n.toNat).map fun i : Nat => (i : Int)).map V.int := by
      unfold rgV
      rw [Int.sub_zero, List.map_map]
      apply List.map_congr_left
      intro i _
      show V.int (0 + (i : Int)) = V.int (i : Int)
      rw [Int.zero_add]
    rw [e]; exact h q hq⟩
theorem merge {P : Hp → Prop} {G : Prop} (C : Hp → Prop) (h : (∀ H', C H' → P H') → G) (k : ∀ H', C H' → P H') : G := h k
theorem s_andp {u : TT} {σ : L2.St} {H : Hp} {QB : Bool → Hp → Prop} {k : Bool} (k2 : Bool) (hu : QB k2 H → u σ H QB) (h : QB (k && k2) H) : zIf k (u σ H QB) (QB false H) := by
  cases k
  · exact s_iff h
  · exact s_ift (hu h)
end Z
set_option Elab.async false
set_option linter.all false
set_option maxRecDepth 100000
set_option maxHeartbeats 4000000
/-! ### exceptions that are kept behind their clause -/
namespace Z
open PySem PySem.Spec PyProof.Rows L2
def kxo (a : Addr) (cls : Value) (d : Option Addr) : HO := .ext fun h => ∃ oe vs, h.get? a = some oe ∧ Zc cls d oe ∧ oe.data = .fields vs
theorem kxo_ok {P : Program} {w : World} {H : Hp} {h : Heap} {a : Addr} {cls : Value} {d : Option Addr} {oe : Obj} {vs : Array Value} (e : h.get? a = some oe) (z : Zc cls d oe) (f : oe.data = .fields vs) : ObjOk P w H h a (kxo a cls d) :=
  ⟨⟨oe, vs, e, z, f⟩, ⟨oe, e⟩, fun h1 h2 ⟨o1, v1, g1, g2, g3⟩ k => ⟨o1, v1, k _ g1, g2, g3⟩⟩
theorem kxo_at {P : Program} {w : World} {H : Hp} {h : Heap} {a : Addr} {cls : Value} {d : Option Addr} (hok : HOk P w H h) (e : H a = some (kxo a cls d)) : ∃ oe vs, h.get? a = some oe ∧ Zc cls d oe ∧ oe.data = .fields vs := by
  have x : ObjOk P w H h a (.ext fun h => ∃ oe vs, h.get? a = some oe ∧ Zc cls d oe ∧ oe.data = .fields vs) := hok a _ e
  exact x.1
section
variable {X : Cx} {pins pn' : List (Addr × Obj)} {σ : L2.St} {H : Hp} {s : Shared} {a : Addr} {oe : Obj} {vs : Array Value} {cls : Value} {d : Option Addr}
theorem inv_keep (ok : X.Ok) (I : Inv (X.suite a ((a, oe) :: (X.pn ++ pins))) pn' σ H s) (hz : Zc cls d oe) (hd : oe.data = .fields vs) (new : ∀ b o, X.s_0.heap.get? b = some o → b ≠ a) (np : ∀ p ∈ X.pn ++ pins, p.1 ≠ a) :
    Inv X pins σ (upd H a (kxo a cls d)) s := by
  obtain ⟨ha, na, nL, nF, nc⟩ := I.pin (a, oe) (List.mem_append_left _ List.mem_cons_self)
  have up : ∀ {b : Addr} {u : HO}, H b = some u → upd H a (kxo a cls d) b = some u := fun {b u} e => (upd_ne (ne_of_none e na)).trans e
  have B := I.base
  refine ⟨ok, I.os, I.bare, ⟨B.keep, B.slot, fun b o e n hx => (upd_ne (new b o e)).trans (B.free b o e n hx), B.there, fun b xs e => up (B.tups b xs e), fun b o u e => up (B.frzs b o u e), fun b ps e => ?_⟩, I.loc, I.cell, ?_, fun x c e => ?_, fun p hp => ?_, fun b o e => ?_, I.len⟩
  · obtain ⟨more, q⟩ := B.tbls b ps e
    exact ⟨more, up q⟩
  · exact (upd_ne nL.symm).trans I.free
  · refine (upd_ne fun z => ?_).trans (I.freeC x c e)
    obtain ⟨v, o, q, qd⟩ := I.cell x c e
    subst z
    cases (show s.heap.get? c = some oe from ha).symm.trans q
    exact nc v qd
  · obtain ⟨g1, g2, g3⟩ := I.pin p (List.mem_append_left _ (List.mem_cons_of_mem _ hp))
    exact ⟨g1, (upd_ne (np p hp)).trans g2, g3⟩
  · by_cases c : b = a
    · subst c
      rw [upd_same] at e
      cases e
      exact kxo_ok ha hz hd
    · rw [upd_ne c] at e
      exact (I.hok b o e).stay (fun _ _ _ q => q) (fun _ q => up q) fun _ _ q => up q
end
/-- what the clause wishes of an exception of the body: it is kept -/
def wKeep (K : PySem.W.Frag) (c : Value) (i : Nat) (ts : TS) (Wout : WX) (D : Ends) : WX := fun cls d σ H =>
  ∃ b, PySem.W.exmOne K cls c = some b ∧ (b = true → ∀ a, H a = none → ts ⟨fun σ' H' => H' a = none → D.nx (σ'.set i none) (upd H' a (kxo a cls d)), fun _ _ => False, fun _ _ => False, fun _ _ => False⟩ (σ.set i (some (.ref a))) H) ∧ (b = false → Wout cls d σ H)
def sTryKeep (K : PySem.W.Frag) (c : Value) (i : Nat) (tb : WX → TS) (ts : TS) (W : WX) : TS := fun D σ H => tb (wKeep K c i ts W D) D σ H
section
variable {X : Cx} {x n : Str} {c : Value} {i : Nat} {body suite : List Stmt} {b₀ : Stmt} {np pos pos' : Pos} {tb : WX → TS} {ts : TS} {Wout : WX}
theorem ps_try_keep (hs : X.stack = X.env :: X.outer) (hf : X.env.frame = some X.env.locals) (hex : X.ex = []) (hN : X.N.Nodup) (hi : X.N[i]? = some n) (hln : X.env.kindOf n = some .local) (hc : Names X x c) (tk : Takes X Wout)
    (hb : ∀ (W : WX) (pn : List (Addr × Obj)) (xe : Value → Shared → Prop), Takes (X.tr pn xe) W → PassesOwn (model X.prog X.w) X.A X.env xe → PSs (X.tr pn xe) body (tb W))
    (hsu : ∀ (a : Addr) (oe : Obj) (pn : List (Addr × Obj)), PSs (X.suite a ((a, oe) :: pn)) (b₀ :: suite) ts) :
    PS X (.Try body [.ExceptHandler (some (.Name x np)) (some n) (b₀ :: suite) pos'] [] [] pos) (sTryKeep X.K c i tb ts Wout) := by
  refine ⟨fun pins s σ H D I0 h0 => ?_⟩
  have okX := I0.ok
  have frX : X.A.frames = some (X.env :: X.outer) := by rw [← hs]; exact okX.frames
  refine wpAny_Try_except ?_
  refine wpAny_mono ((hb (wKeep X.K c i ts Wout D) (X.pn ++ pins)
    (fun er z1 => wpAny (model X.prog X.w) X.A (noteFrame er X.env) (fun _ z2 => wpAny (model X.prog X.w) X.A (setFlight er none)
      (fun _ z3 => wpAny (model X.prog X.w) X.A (handleBy er X.env [.ExceptHandler (some (.Name x np)) (some n) (b₀ :: suite) pos']) (SP X pins D) X.xe z3) X.xe z2) X.xe z1)
    (fun u t0 xx => ?_) PassesOwn.looking).run [] s σ H D (I0.toTry _) h0) (fun f t1 hsp => ?_) fun er t1 he => he
  · obtain ⟨p, G, sI, pins1, τ, H1, cls, d, rfl, J0, nb, up0, sky0, np1, os0, bare0, b, hb1, hyes, hno⟩ := xx
    have J1 : Inv X pins τ H1 sI := J0.ofTry okX
    have sky1 : Sky G (X.env :: X.outer) p (Zc cls d) X.env.locals t0.heap := by rw [← hs]; exact sky0
    show wpAny (model X.prog X.w) X.A (noteFrame (.ref p) X.env) _ _ _
    refine Sky.land Zc.steady frX hf sky1 fun g3 fl3 up3 => ?_
    have J3 : Inv X pins τ H1 { t0 with heap := g3 } := J1.landed nb fl3.1 (up0.trans up3) os0 bare0
    obtain ⟨o3, v3, e3, z3, d3⟩ := fl3.there
    have gG : G.get? p = none := fl3.2.1
    have nfr : p ∉ frs (X.env :: X.outer) := fun hm => by
      obtain ⟨_, o', e', hnf⟩ := fl3.2.2.1.mem hm
      rw [e3] at e'; cases e'
      exact hnf _ d3
    have nL : p ≠ X.env.locals := fun z => nfr (List.mem_filterMap.mpr ⟨X.env, List.mem_cons_self, by rw [hf, z]⟩)
    have nF : p ∉ X.fs := fun hm => by
      obtain ⟨er, he, q⟩ := List.mem_filterMap.mp hm
      exact nfr (List.mem_filterMap.mpr ⟨er, List.mem_cons_of_mem _ he, q⟩)
    have far : ∀ {b : Addr} {o : Obj}, sI.heap.get? b = some o → b ≠ p := fun {b o} e z => by
      subst z
      have := nb b o e (by rw [hs]; exact nfr)
      rw [gG] at this; cases this
    have newp : ∀ (b : Addr) (o : Obj), X.s_0.heap.get? b = some o → b ≠ p := fun b o e => by
      obtain ⟨o', e'⟩ := J1.base.there b o e (by rw [hex]; exact List.not_mem_nil)
      exact far e'
    have pinp : ∀ q ∈ X.pn ++ pins, q.1 ≠ p := fun q hq => far (J1.pin q hq).1
    have S3 := J3.suite e3 d3 np1 nL nF
    refine wpAny_handleBy_cons (codeAny_handlers_test ?_) (by intro q; cases q)
    have LT : PySem.W.Looks (model X.prog X.w) g3 (typeOf (.ref p)) cls := fun A Q E s k q => wpAny_typeOf_ref (k _ _ e3) (by rw [z3.1]; exact q)
    have LM := PySem.W.exm_one (M := model X.prog X.w) (J3.kIn) LT hb1
    have asks : ∀ {Q : Value → Shared → Prop} {E : Value → Shared → Prop}, Q c { t0 with heap := g3 } → wpAny (model X.prog X.w) (X.A.mark (some (.ref p))) (eval (.Name x np) X.env) Q E { t0 with heap := g3 } := fun {Q E} q => by
      obtain ⟨hg, hdbg, hm | ⟨hm, hv, hnn⟩⟩ := hc
      · exact ld_glob (X := X.suite p ((p, o3) :: (X.pn ++ pins))) S3 hg hm q hdbg
      · exact ld_blt (X := X.suite p ((p, o3) :: (X.pn ++ pins))) S3 hg hm hv q hnn hdbg
    refine asks (LM.here ?_)
    cases b with
    | false =>
      show wpAny _ X.A (handleBy (.ref p) X.env []) _ _ _
      refine wpAny_handleBy_nil ?_
      obtain ⟨k1, k2, k3, oe, ws, tr, otr, us, he, hz, hd, h1, hr⟩ := id fl3
      unfold PySem.passOn
      refine wpAny_bind (wpAny_field he hd h1 ?_)
      rw [if_neg (show ¬ ((Value.ref tr == Value.none) = true) from by simp)]
      have gone : wpAny (model X.prog X.w) X.A (setFlight (.ref p) X.env.frame) (fun _ s4 => wpAny (model X.prog X.w) X.A (throw (.ref p) : Sem Flow) (SP X pins D) X.xe s4) X.xe { t0 with heap := g3 } := by
        rw [hf]
        refine HandSPX.setFlight_upZ fl3 fun g4 hh4 up4 => wpAny_throw (tk _ _ ?_)
        exact ⟨p, G, sI, pins, τ, H1, cls, d, rfl, J1, nb, (up0.trans up3).trans up4, .inr (.inr (by rw [hs]; exact hh4)), np1, os0, bare0, hno rfl⟩
      first
        | exact wpAny_bind (wpAny_pure (wpAny_bind gone))
        | exact wpAny_bind gone
    | true =>
      refine codeAny_handlers_suite_as ?_
      refine HandSPX.lands_againZ fl3 fun g4 fl4 up4 => ?_
      have J4 : Inv X pins τ H1 { t0 with heap := g4 } := J1.landed nb fl4.1 ((up0.trans up3).trans up4) os0 bare0
      obtain ⟨o4, v4, e4, z4, d4⟩ := fl4.there
      have S4 := J4.suite e4 d4 np1 nL nF
      refine store_ok (X := X.suite p ((p, o4) :: (X.pn ++ pins))) (v := .ref p) S4 hN hi (.inl hln) rfl (fun s5 S5 => ?_) (.inr hln)
      refine wpAny_mono ((hsu p o4 (X.pn ++ pins)).run [] s5 _ H1 _ S5 (hyes rfl p np1)) (fun f s6 hsp => ?_) fun _ _ z => z.elim
      cases f with
      | next =>
        obtain ⟨σ6, H6, S6, q6⟩ := hsp
        have h6 : H6 p = none := (S6.pin (p, o4) (List.mem_append_left _ List.mem_cons_self)).2.1
        exact gone_ok (inv_keep okX S6 z4 d4 newp pinp) hN hi hln fun s7 J7 => ⟨_, _, J7, q6 h6⟩
      | brk =>
        obtain ⟨σ6, H6, S6, q6⟩ := hsp
        exact q6.elim
      | cont =>
        obtain ⟨σ6, H6, S6, q6⟩ := hsp
        exact q6.elim
      | ret u =>
        obtain ⟨v6, σ6, H6, S6, r6, q6⟩ := hsp
        exact q6.elim
  · cases f with
    | next =>
      obtain ⟨σ1, H1, J1, q⟩ := hsp
      exact wpAny_execs_nil ⟨σ1, H1, J1.ofTry okX, q⟩
    | brk =>
      obtain ⟨σ1, H1, J1, q⟩ := hsp
      exact ⟨σ1, H1, J1.ofTry okX, q⟩
    | cont =>
      obtain ⟨σ1, H1, J1, q⟩ := hsp
      exact ⟨σ1, H1, J1.ofTry okX, q⟩
    | ret u =>
      obtain ⟨v, σ1, H1, J1, r, q⟩ := hsp
      exact ⟨v, σ1, H1, J1.ofTry okX, r, q⟩
end
/-! ### what is asked of a kept exception -/
def rIsK (K : PySem.W.Frag) : List V → Hp → VK → Prop := fun xs H Q => ∃ (a D : Addr) (d : Option Addr) (c : V) (u : Value) (b : Bool), xs = [.ref a, c] ∧ H a = some (kxo a (.ref D) d) ∧ (∀ dd, d = some dd → ∃ fs, H dd = some (.xd fs)) ∧ ExcC K D ∧
  ((ClsV c u ∧ PySem.W.kitOne K (.ref D) u = some b) ∨ ∃ (q : Addr) (cs : List V) (us : List Value), c = .ref q ∧ H q = some (.tup cs) ∧ Paired ClsV cs us ∧ PySem.W.kitAny K (.ref D) us = some b) ∧ Q (.bl b) H
theorem kx_inst {X : Cx} {pins : List (Addr × Obj)} {σ : L2.St} {H : Hp} {s : Shared} {a D : Addr} {d : Option Addr} (I : Inv X pins σ H s) (e : H a = some (kxo a (.ref D) d)) (hd : ∀ dd, d = some dd → ∃ fs, H dd = some (.xd fs)) : ∃ ox od, PySem.W.InstAt s.heap a ox D od ∧ (∀ dd, d = some dd → ∃ o, od = some o ∧ s.heap.get? dd = some o) := by
  obtain ⟨oe, vs, g, z, f⟩ := kxo_at I.hok e
  cases d with
  | none =>
    refine ⟨oe, none, ⟨g, z.1, by unfold PySem.W.notCls; rw [f] <;> rfl, by rw [z.2]; trivial⟩, fun dd h => by cases h⟩
  | some dd =>
    obtain ⟨fs, hx⟩ := hd dd rfl
    have hx' : ObjOk X.prog X.w H s.heap dd (.xd fs) := I.hok dd _ hx
    obtain ⟨mA, hns, hr⟩ := hx'
    obtain ⟨od, ho, hl⟩ := lookIn_ns hns
    exact ⟨oe, some od, ⟨g, z.1, by unfold PySem.W.notCls; rw [f] <;> rfl, by rw [z.2]; exact ho⟩, fun d2 h => by cases h; exact ⟨od, rfl, ho⟩⟩
theorem call_isK {X : Cx} : CallR X (.builtin "isinstance") (rIsK X.K) := by
  intro pins s σ H xs us Q I r h
  obtain ⟨a, D, d, c, u, b, rfl, ha, hd, C, hc, q⟩ := h
  obtain ⟨u1, u2, rfl, r1, r2⟩ := vals2 r
  cases (show u1 = Value.ref a from r1)
  obtain ⟨ox, od, J, _⟩ := kx_inst I ha hd
  have Zk : PySem.W.KitX X.K (.ref a) (.ref D) (fun h => PySem.W.InstAt h a ox D od) := PySem.W.kitx_exc (by
    have := C.hd
    obtain ⟨cd, hcd, _⟩ := PySem.W.any_some this
    rw [hcd]; rfl) C.hg C.hk C.hs C.ha C.hn C.ht C.hm
  rcases hc with ⟨k, e⟩ | ⟨tp, cs, ws, rfl, hT, k, e⟩
  · cases k.eq r2
    exact PySem.W.kia_one Zk I.kIn J e (fun z => nomatch z) fun tk => ⟨.bl b, H, I.tok tk, rfl, q⟩
  · cases (show u2 = Value.ref tp from r2)
    obtain ⟨_, its, rv, o, h1, h2, n, h3⟩ := (show ObjOk X.prog X.w H s.heap tp (.tup cs) from I.hok tp _ hT)
    cases ClsV.all k rv
    obtain ⟨oc, od', dt, sl⟩ := o
    simp only at h2 h3
    subst h2 h3
    exact PySem.W.kia_tup Zk I.kIn J h1 e (fun z => nomatch z) fun tk => ⟨.bl b, H, I.tok tk, rfl, q⟩
def rIsi3 (K : PySem.W.Frag) : List V → Hp → VK → Prop := fun xs H Q => rIsi2 K xs H Q ∨ rIsK K xs H Q
theorem call_isi3 {X : Cx} : CallR X (.builtin "isinstance") (rIsi3 X.K) := fun pins s σ H vs us Q I r h => h.elim (fun z => call_isi' pins s σ H vs us Q I r z) fun z => call_isK pins s σ H vs us Q I r z
/-- e.f of a kept exception -/
def zKf (K : PySem.W.Frag) (f : Str) (x : V) (H : Hp) (Q : VK) : Prop := ∃ (a C dd : Addr) (fs : List (Str × V)) (v : V), x = .ref a ∧ H a = some (kxo a (.ref C) (some dd)) ∧ XfC K C ∧ PySem.W.findIn K (.ref C) f = some none ∧ H dd = some (.xd fs) ∧ fs.lookup f = some v ∧ Q v H
def tKf (K : PySem.W.Frag) (te : TE) (f : Str) : TE := fun σ H Q => te σ H fun x H1 => zKf K f x H1 Q
theorem s_kf {K : PySem.W.Frag} {te : TE} {f : Str} {σ : L2.St} {H : Hp} {Q : VK} (h : te σ H fun x H1 => zKf K f x H1 Q) : tKf K te f σ H Q := h
theorem pe_kf {X : Cx} {e : Expr} {te : TE} {pos : Pos} {n : Str} (he : PE X e te) (hb : attributeBase e n X.env (eval e X.env) = eval e X.env := by rfl) : PE X (.Attribute e n pos) (tKf X.K te n) := by
  refine ⟨fun pins s σ H Q I h => ?_⟩
  refine attr_of hb (thn (he.run pins s σ H _ I h) fun u s1 ⟨x, H1, I1, rx, a, C, dd, fs, v, ex, ea, T, hno, ed, l, q⟩ => ?_)
  subst ex
  cases (show u = Value.ref a from rx)
  obtain ⟨oe, vs, g, z, f⟩ := kxo_at I1.hok ea
  have hx' : ObjOk X.prog X.w H1 s1.heap dd (.xd fs) := I1.hok dd _ ed
  obtain ⟨mA, hns, hr⟩ := hx'
  obtain ⟨od, ho, hl⟩ := lookIn_ns hns
  obtain ⟨u, hu, ru⟩ := RelO.some_of (v := v) (o := mA n) (by rw [← l]; exact hr n)
  have J : PySem.W.InstAt s1.heap a oe C (some od) := ⟨g, z.1, by unfold PySem.W.notCls; rw [f] <;> rfl, by rw [z.2]; exact ho⟩
  exact HandSPX.exc_get I1.kIn J T.ga T.gg T.exC (PySem.W.findObj_own T.hdC hno rfl (by rw [hl, hu])) (handed_of ru) ⟨v, H1, I1.tok _, ru, q⟩
/-- a kept exception of a class with fields -/
structure Kept (H : Hp) (a D d : Addr) (fs : List (Str × V)) : Prop where
  k : H a = some (kxo a (.ref D) (some d))
  d : H d = some (.xd fs)
theorem Kept.of {H : Hp} {a D d : Addr} {fs : List (Str × V)} (na : H a = none) (h : H d = some (.xd fs)) : Kept (upd H a (kxo a (.ref D) (some d))) a D d fs := ⟨upd_same, (upd_ne (ne_of_none h na)).trans h⟩
theorem Kept.same {H H' : Hp} {a D d : Addr} {fs : List (Str × V)} (h : Kept H a D d fs) (S : Same H H') : Kept H' a D d fs := ⟨S _ _ h.k, S _ _ h.d⟩
theorem Kept.ne {H : Hp} {a D d p : Addr} {fs : List (Str × V)} {o : HO} (h : Kept H a D d fs) (hp : H p = some o) (n1 : ∀ φ, o ≠ .ext φ) (n2 : ∀ gs, o ≠ .xd gs) : a ≠ p ∧ d ≠ p := ⟨ne_of h.k hp fun z => n1 _ z.symm, ne_of h.d hp fun z => n2 _ z.symm⟩
theorem Kept.but {H H' : Hp} {a D d p : Addr} {fs : List (Str × V)} {o : HO} (h : Kept H a D d fs) (B : But p H H') (hp : H p = some o) (n1 : ∀ φ, o ≠ .ext φ) (n2 : ∀ gs, o ≠ .xd gs) : Kept H' a D d fs := by
  obtain ⟨m1, m2⟩ := h.ne hp n1 n2
  exact ⟨B.rd m1 h.k, B.rd m2 h.d⟩
section
variable {K : PySem.W.Frag} {H : Hp} {Q : VK} {a D d c q : Addr} {fs : List (Str × V)} {b : Bool} {f : Str} {v : V} {cs : List V} {us : List Value}
theorem s_isKo (h : Kept H a D d fs) (C : ExcC K D) (e : PySem.W.kitOne K (.ref D) (.ref c) = some b) (g : Q (.bl b) H) : rIsi3 K [.ref a, .ref c] H Q :=
  .inr ⟨a, D, some d, .ref c, .ref c, b, rfl, h.k, fun dd z => by cases z; exact ⟨_, h.d⟩, C, .inl ⟨.own c, e⟩, g⟩
theorem s_isKv (h : Kept H a D d fs) (C : ExcC K D) (e : PySem.W.kitOne K (.ref D) (.type "ValueError") = some b) (g : Q (.bl b) H) : rIsi3 K [.ref a, .ty "ValueError"] H Q :=
  .inr ⟨a, D, some d, .ty "ValueError", .type "ValueError", b, rfl, h.k, fun dd z => by cases z; exact ⟨_, h.d⟩, C, .inl ⟨.ty _, e⟩, g⟩
theorem s_isKt (h : Kept H a D d fs) (C : ExcC K D) (hq : H q = some (.tup cs)) (k : Paired ClsV cs us) (e : PySem.W.kitAny K (.ref D) us = some b) (g : Q (.bl b) H) : rIsi3 K [.ref a, .ref q] H Q :=
  .inr ⟨a, D, some d, .ref q, .none, b, rfl, h.k, fun dd z => by cases z; exact ⟨_, h.d⟩, C, .inr ⟨q, cs, us, rfl, hq, k, e⟩, g⟩
theorem s_isNo (h : H a = some (kxo a (.ref D) none)) (C : ExcC K D) (e : PySem.W.kitOne K (.ref D) (.ref c) = some b) (g : Q (.bl b) H) : rIsi3 K [.ref a, .ref c] H Q :=
  .inr ⟨a, D, none, .ref c, .ref c, b, rfl, h, fun dd z => (by cases z), C, .inl ⟨.own c, e⟩, g⟩
theorem s_isNv (h : H a = some (kxo a (.ref D) none)) (C : ExcC K D) (e : PySem.W.kitOne K (.ref D) (.type "ValueError") = some b) (g : Q (.bl b) H) : rIsi3 K [.ref a, .ty "ValueError"] H Q :=
  .inr ⟨a, D, none, .ty "ValueError", .type "ValueError", b, rfl, h, fun dd z => (by cases z), C, .inl ⟨.ty _, e⟩, g⟩
theorem s_isNt (h : H a = some (kxo a (.ref D) none)) (C : ExcC K D) (hq : H q = some (.tup cs)) (k : Paired ClsV cs us) (e : PySem.W.kitAny K (.ref D) us = some b) (g : Q (.bl b) H) : rIsi3 K [.ref a, .ref q] H Q :=
  .inr ⟨a, D, none, .ref q, .none, b, rfl, h, fun dd z => (by cases z), C, .inr ⟨q, cs, us, rfl, hq, k, e⟩, g⟩
theorem s_zkf (h : Kept H a D d fs) (X : XfC K D) (n : PySem.W.findIn K (.ref D) f = some none) (l : fs.lookup f = some v) (g : Q v H) : zKf K f (.ref a) H Q := ⟨a, D, d, fs, v, rfl, h.k, X, n, h.d, l, g⟩
theorem kitAny_no {t c : Value} {cs : List Value} {r : Bool} (h : PySem.W.kitOne K t c = some false) (g : PySem.W.kitAny K t cs = some r) : PySem.W.kitAny K t (c :: cs) = some r := kitAny_cons h (fun _ => g) fun z => by cases z
theorem kitAny_yes {t c : Value} {cs : List Value} (h : PySem.W.kitOne K t c = some true) : PySem.W.kitAny K t (c :: cs) = some true := kitAny_cons h (fun z => by cases z) fun _ => rfl
theorem kit_mkV {K : PySem.W.Frag} {S : Addr} (h : PySem.W.subIn K (.ref S) (.type "ValueError") = some true) : PySem.W.kitOne K (.ref S) (.type "ValueError") = some true := by
  unfold PySem.W.kitOne PySem.W.kitCls
  rw [if_neg (by intro z; cases beq_iff_eq.mp z)]
  show (if PySem.W.kitMeta "ValueError" = true then PySem.W.subIn K (.ref S) (.type "ValueError") else none) = some true
  rw [if_pos (by decide +kernel)]
  exact h
theorem kit_mkR {K : PySem.W.Frag} {S C : Addr} {b : Bool} (h1 : PySem.W.isClsIn K C = true) (h2 : PySem.W.typeIn K (.ref C) = some (.type "type")) (h3 : PySem.W.subIn K (.ref S) (.ref C) = some b) (h4 : PySem.W.subIn K (.ref S) (.ref S) = some true) : PySem.W.kitOne K (.ref S) (.ref C) = some b := by
  unfold PySem.W.kitOne PySem.W.kitCls
  by_cases e : (Value.ref S == Value.ref C) = true
  · rw [if_pos e]
    cases Value.ref.inj (beq_iff_eq.mp e)
    rw [h4] at h3
    exact h3
  · rw [if_neg e]
    have e2 : ((PySem.W.clsIn K C).isSome && PySem.W.typeIn K (.ref C) == some (.type "type")) = true := by
      have h1' : (PySem.W.clsIn K C).isSome = true := h1
      rw [h1', h2] <;> rfl
    show (if ((PySem.W.clsIn K C).isSome && PySem.W.typeIn K (.ref C) == some (.type "type")) = true then PySem.W.subIn K (.ref S) (.ref C) else none) = some b
    rw [if_pos e2]
    exact h3
theorem s_isi3 {xs : List V} (h : rIsi2 K xs H Q) : rIsi3 K xs H Q := .inl h
end
theorem s_tryKeep {N b c : L2.St → Hp → Prop} {r : VK} {K : PySem.W.Frag} {σ : L2.St} {H : Hp} {i : Nat} {cc : Value} {tbw : WX → TS} {ts : TS} {W : WX} (h : tbw (wKeep K cc i ts W ⟨N, r, b, c⟩) ⟨N, r, b, c⟩ σ H) : sTryKeep K cc i tbw ts W ⟨N, r, b, c⟩ σ H := h
end Z
namespace My
open PySem L2 Z

def top (i : Nat) : Stmt := PySem.Challenge.pw_ownchain_k24_what_is_no_code.main.body.getD i (.Pass ⟨0, 0, 0, 0⟩)
abbrev st_is_whole : Stmt := top 26
abbrev nm_is_whole : List Str := ["thing"]
abbrev st_are_wholes : Stmt := top 27
abbrev nm_are_wholes : List Str := ["things", "many", ".0", "thing"]
abbrev st_fits_op : Stmt := top 28
abbrev nm_fits_op : List Str := ["op", "number", "functions", "rows"]
abbrev st_fits_head : Stmt := top 29
abbrev nm_fits_head : List Str := ["head", "at", "rows", "start", "params", "boxes"]
abbrev st_make_code : Stmt := top 30
abbrev nm_make_code : List Str := ["heads", "rows", "at", "op", "number"]
abbrev st_cut_up : Stmt := top 31
abbrev nm_cut_up : List Str := ["numbers", "size", "found", "k"]
abbrev st_parted_code : Stmt := top 32
abbrev nm_parted_code : List Str := ["thing", "many", "heads", "rows"]
abbrev st_is_code : Stmt := top 33
abbrev nm_is_code : List Str := ["thing", "found"]
abbrev st_heads_of : Stmt := top 34
abbrev nm_heads_of : List Str := ["code"]
abbrev st_rows_of : Stmt := top 35
abbrev nm_rows_of : List Str := ["code"]
abbrev st_code_of : Stmt := top 36
abbrev nm_code_of : List Str := ["heads", "rows", "head", "row", "found", ".0"]
abbrev st_summed : Stmt := top 49
abbrev nm_summed : List Str := ["kind", "one", "other", "found"]
abbrev st_parted_by : Stmt := top 50
abbrev nm_parted_by : List Str := ["kind", "one", "other"]
abbrev st_of_numbers : Stmt := top 51
abbrev nm_of_numbers : List Str := ["kind", "values", "one", "other"]
abbrev st_of_row : Stmt := top 52
abbrev nm_of_row : List Str := ["kind", "values", "row"]
abbrev st_worth : Stmt := top 53
abbrev nm_worth : List Str := ["kind", "values", "rows"]
abbrev st_parts_of : Stmt := top 59
abbrev nm_parts_of : List Str := ["kind"]
abbrev st_Frame_init : Stmt := inClass (top 62) 0
abbrev nm_Frame_init : List Str := ["self", "start", "boxes"]
abbrev st_Frame_take : Stmt := inClass (top 62) 1
abbrev nm_Frame_take : List Str := ["self", "many", "left", "found"]
abbrev st_Frame_lay : Stmt := inClass (top 62) 2
abbrev nm_Frame_lay : List Str := ["self", "value"]
abbrev st_Machine_init : Stmt := inClass (top 63) 0
abbrev nm_Machine_init : List Str := ["self", "code", "given", "breaths"]
abbrev st_Machine_breathe : Stmt := inClass (top 63) 1
abbrev nm_Machine_breathe : List Str := ["self"]
abbrev st_Machine_begin : Stmt := inClass (top 63) 2
abbrev nm_Machine_begin : List Str := ["self", "function", "params", "start", "many", "boxes"]
abbrev st_Machine_call : Stmt := inClass (top 63) 3
abbrev nm_Machine_call : List Str := ["self", "frame", "function", "params", "fault"]
abbrev st_Machine_back : Stmt := inClass (top 63) 4
abbrev nm_Machine_back : List Str := ["self", "frame", "last"]
abbrev st_Machine_fail : Stmt := inClass (top 63) 5
abbrev nm_Machine_fail : List Str := ["self", "frame", "last"]
abbrev st_Machine_deed : Stmt := inClass (top 63) 6
abbrev nm_Machine_deed : List Str := ["self", "frame", "kind", "parts", "fault", "value"]
abbrev st_Machine_boxed : Stmt := inClass (top 63) 7
abbrev nm_Machine_boxed : List Str := ["self", "frame", "op", "box", "last"]
abbrev st_Machine_led : Stmt := inClass (top 63) 8
abbrev nm_Machine_led : List Str := ["self", "frame", "op", "number", "last", "ahead"]
abbrev st_Machine_plain_row : Stmt := inClass (top 63) 9
abbrev nm_Machine_plain_row : List Str := ["self", "frame", "op", "number"]
abbrev st_Machine_step : Stmt := inClass (top 63) 10
abbrev nm_Machine_step : List Str := ["self", "frame", "op", "number"]
abbrev st_Machine_go_on : Stmt := inClass (top 63) 11
abbrev nm_Machine_go_on : List Str := ["self", "most", "word", "gone", "frame"]
abbrev st_go : Stmt := top 64
abbrev nm_go : List Str := ["code", "given", "breaths", "most", "machine", "word"]
abbrev st_Lpen : Stmt := top 66
abbrev nm_Lpen : List Str := ["_law_script"]
abbrev st_Lmixed : Stmt := top 67
abbrev nm_Lmixed : List Str := ["_law_cell", "_law_turn", "_law_number_here"]
abbrev st_Ltake : Stmt := top 68
abbrev nm_Ltake : List Str := ["_law_pen_here", "_law_many", "_law_cell", "_law_found"]
abbrev st_Lnumber : Stmt := top 69
abbrev nm_Lnumber : List Str := ["_law_pen_here"]
abbrev st_Lneeds : Stmt := top 70
abbrev nm_Lneeds : List Str := ["_law_op", "_law_number_here", "_law_heads"]
abbrev st_Lrow : Stmt := top 71
abbrev nm_Lrow : List Str := ["_law_pen_here", "_law_height_here", "_law_many", "_law_heads", "_law_op", "_law_number_here"]
abbrev st_Lheight : Stmt := top 72
abbrev nm_Lheight : List Str := ["_law_op", "_law_number_here", "_law_heads", "_law_height_here", "_law_left"]
abbrev st_Lcode : Stmt := top 73
abbrev nm_Lcode : List Str := ["_law_pen_here", "_law_many", "_law_heads", "_law_k", "_law_params", "_law_rows", "_law_flat_here", "_law_height_here", "_law_start"]
abbrev st_Lword : Stmt := top 74
abbrev nm_Lword : List Str := ["_law_caught", "_law_others"]
abbrev st_Lbad_row : Stmt := top 75
abbrev nm_Lbad_row : List Str := ["_law_pen_here", "_law_many", "_law_count", "_law_some"]
abbrev st_Lbad_head : Stmt := top 76
abbrev nm_Lbad_head : List Str := ["_law_pen_here", "_law_head", "_law_at", "_law_many", "_law_start", "_law_params", "_law_boxes", "_law_some"]
abbrev st_Lflat : Stmt := top 77
abbrev nm_Lflat : List Str := ["_law_heads", "_law_rows", "_law_found", "_law_one"]
abbrev st_Lbent : Stmt := top 78
abbrev nm_Lbent : List Str := ["_law_pen_here", "_law_heads", "_law_rows", "_law_at", "_law_to", "_law_way", "_law_more", ".0", "_law_k"]
abbrev st_Lodd : Stmt := top 79
abbrev nm_Lodd : List Str := ["_law_pen_here", "_law_numbers", "_law_at", "_law_lower", "_law_upper", "_law_some"]
abbrev st_Ltried : Stmt := top 80
abbrev nm_Ltried : List Str := ["_law_way", "_law_one", "_law_other", "_law_caught", "error"]
abbrev st_Lrefused : Stmt := top 81
abbrev nm_Lrefused : List Str := ["_law_thing", ".0", "_law_way"]
abbrev st_law : Stmt := top 82
abbrev nm_law : List Str := ["_law_script", "_law_pen_here", "_law_heads", "_law_rows", "_law_numbers", "_law_turn", "_law_bad_heads", "_law_bad_rows", "_law_one", "_law_other"]
/-- where the top's things stand -/
structure Adr where
  K : PySem.W.Frag
  mg : Str → Option Value
  t_PUSH_codes : Tok
  t_GET : Tok
  t_SET : Tok
  t_DROP : Tok
  t_JUMP : Tok
  t_UNLESS : Tok
  t_CALL : Tok
  t_BACK : Tok
  t_FAIL_codes : Tok
  t_BREATH : Tok
  t_DO : Tok
  t_PICK : Tok
  t_MOST_FUNCTIONS : Tok
  t_MOST_PARAMS : Tok
  t_MOST_BOXES : Tok
  t_FIRST_DONE : Tok
  t_LAST_DONE : Tok
  t_MOST_PICKED : Tok
  t_ADD : Tok
  t_SUB : Tok
  t_MUL : Tok
  t_QUO : Tok
  t_REST : Tok
  t_LESS : Tok
  t_SAME : Tok
  t_PUSH_deeds : Tok
  t_AT : Tok
  t_SIZE_deeds : Tok
  t_MOST_FIGURES : Tok
  t_FAIL_kinds : Tok
  t_PUT : Tok
  t_SIZE_kinds : Tok
  t_NEW : Tok
  t_MOST_GOING : Tok
  c_ChainError : Addr
  c_NoSheet : Addr
  c_NoText : Addr
  c_NoCode : Addr
  c_NoRow : Addr
  c_NoName : Addr
  c_Frame : Addr
  c_Machine : Addr
  f_is_whole : Addr
  d_is_whole : FuncData
  f_are_wholes : Addr
  d_are_wholes : FuncData
  f_fits_op : Addr
  d_fits_op : FuncData
  f_fits_head : Addr
  d_fits_head : FuncData
  f_make_code : Addr
  d_make_code : FuncData
  f_cut_up : Addr
  d_cut_up : FuncData
  f_parted_code : Addr
  d_parted_code : FuncData
  f_is_code : Addr
  d_is_code : FuncData
  f_heads_of : Addr
  d_heads_of : FuncData
  f_rows_of : Addr
  d_rows_of : FuncData
  f_code_of : Addr
  d_code_of : FuncData
  f_summed : Addr
  d_summed : FuncData
  f_parted_by : Addr
  d_parted_by : FuncData
  f_of_numbers : Addr
  d_of_numbers : FuncData
  f_of_row : Addr
  d_of_row : FuncData
  f_worth : Addr
  d_worth : FuncData
  f_parts_of : Addr
  d_parts_of : FuncData
  f_Frame_init : Addr
  d_Frame_init : FuncData
  f_Frame_take : Addr
  d_Frame_take : FuncData
  f_Frame_lay : Addr
  d_Frame_lay : FuncData
  f_Machine_init : Addr
  d_Machine_init : FuncData
  f_Machine_breathe : Addr
  d_Machine_breathe : FuncData
  f_Machine_begin : Addr
  d_Machine_begin : FuncData
  f_Machine_call : Addr
  d_Machine_call : FuncData
  f_Machine_back : Addr
  d_Machine_back : FuncData
  f_Machine_fail : Addr
  d_Machine_fail : FuncData
  f_Machine_deed : Addr
  d_Machine_deed : FuncData
  f_Machine_boxed : Addr
  d_Machine_boxed : FuncData
  f_Machine_led : Addr
  d_Machine_led : FuncData
  f_Machine_plain_row : Addr
  d_Machine_plain_row : FuncData
  f_Machine_step : Addr
  d_Machine_step : FuncData
  f_Machine_go_on : Addr
  d_Machine_go_on : FuncData
  f_go : Addr
  d_go : FuncData
  f_Lpen : Addr
  d_Lpen : FuncData
  f_Lmixed : Addr
  d_Lmixed : FuncData
  f_Ltake : Addr
  d_Ltake : FuncData
  f_Lnumber : Addr
  d_Lnumber : FuncData
  f_Lneeds : Addr
  d_Lneeds : FuncData
  f_Lrow : Addr
  d_Lrow : FuncData
  f_Lheight : Addr
  d_Lheight : FuncData
  f_Lcode : Addr
  d_Lcode : FuncData
  f_Lword : Addr
  d_Lword : FuncData
  f_Lbad_row : Addr
  d_Lbad_row : FuncData
  f_Lbad_head : Addr
  d_Lbad_head : FuncData
  f_Lflat : Addr
  d_Lflat : FuncData
  f_Lbent : Addr
  d_Lbent : FuncData
  f_Lodd : Addr
  d_Lodd : FuncData
  f_Ltried : Addr
  d_Ltried : FuncData
  f_Lrefused : Addr
  d_Lrefused : FuncData
  f_law : Addr
  d_law : FuncData
/-- what is known of them -/
structure Top (Z : Adr) : Prop where
  g_PUSH_codes : Z.mg "PUSH_codes" = some (.int 0 Z.t_PUSH_codes)
  g_GET : Z.mg "GET" = some (.int 1 Z.t_GET)
  g_SET : Z.mg "SET" = some (.int 2 Z.t_SET)
  g_DROP : Z.mg "DROP" = some (.int 3 Z.t_DROP)
  g_JUMP : Z.mg "JUMP" = some (.int 4 Z.t_JUMP)
  g_UNLESS : Z.mg "UNLESS" = some (.int 5 Z.t_UNLESS)
  g_CALL : Z.mg "CALL" = some (.int 6 Z.t_CALL)
  g_BACK : Z.mg "BACK" = some (.int 7 Z.t_BACK)
  g_FAIL_codes : Z.mg "FAIL_codes" = some (.int 8 Z.t_FAIL_codes)
  g_BREATH : Z.mg "BREATH" = some (.int 9 Z.t_BREATH)
  g_DO : Z.mg "DO" = some (.int 10 Z.t_DO)
  g_PICK : Z.mg "PICK" = some (.int 11 Z.t_PICK)
  g_MOST_FUNCTIONS : Z.mg "MOST_FUNCTIONS" = some (.int 16 Z.t_MOST_FUNCTIONS)
  g_MOST_PARAMS : Z.mg "MOST_PARAMS" = some (.int 4 Z.t_MOST_PARAMS)
  g_MOST_BOXES : Z.mg "MOST_BOXES" = some (.int 12 Z.t_MOST_BOXES)
  g_FIRST_DONE : Z.mg "FIRST_DONE" = some (.int 8 Z.t_FIRST_DONE)
  g_LAST_DONE : Z.mg "LAST_DONE" = some (.int 19 Z.t_LAST_DONE)
  g_MOST_PICKED : Z.mg "MOST_PICKED" = some (.int 12 Z.t_MOST_PICKED)
  g_ADD : Z.mg "ADD" = some (.int 8 Z.t_ADD)
  g_SUB : Z.mg "SUB" = some (.int 9 Z.t_SUB)
  g_MUL : Z.mg "MUL" = some (.int 10 Z.t_MUL)
  g_QUO : Z.mg "QUO" = some (.int 11 Z.t_QUO)
  g_REST : Z.mg "REST" = some (.int 12 Z.t_REST)
  g_LESS : Z.mg "LESS" = some (.int 13 Z.t_LESS)
  g_SAME : Z.mg "SAME" = some (.int 14 Z.t_SAME)
  g_PUSH_deeds : Z.mg "PUSH_deeds" = some (.int 15 Z.t_PUSH_deeds)
  g_AT : Z.mg "AT" = some (.int 16 Z.t_AT)
  g_SIZE_deeds : Z.mg "SIZE_deeds" = some (.int 18 Z.t_SIZE_deeds)
  g_MOST_FIGURES : Z.mg "MOST_FIGURES" = some (.int 100 Z.t_MOST_FIGURES)
  g_FAIL_kinds : Z.mg "FAIL_kinds" = some (.int 7 Z.t_FAIL_kinds)
  g_PUT : Z.mg "PUT" = some (.int 17 Z.t_PUT)
  g_SIZE_kinds : Z.mg "SIZE_kinds" = some (.int 18 Z.t_SIZE_kinds)
  g_NEW : Z.mg "NEW" = some (.int 19 Z.t_NEW)
  g_MOST_GOING : Z.mg "MOST_GOING" = some (.int 16 Z.t_MOST_GOING)
  n_ValueError : Z.mg "ValueError" = none
  n_abs : Z.mg "abs" = none
  n_all : Z.mg "all" = none
  n_bool : Z.mg "bool" = none
  n_int : Z.mg "int" = none
  n_isinstance : Z.mg "isinstance" = none
  n_len : Z.mg "len" = none
  n_list : Z.mg "list" = none
  n_max : Z.mg "max" = none
  n_range : Z.mg "range" = none
  n_str : Z.mg "str" = none
  n_tuple : Z.mg "tuple" = none
  F_is_whole : Fun Z.K "is_whole" "is_whole" st_is_whole Z.f_is_whole Z.d_is_whole
  m_is_whole : Z.mg "is_whole" = some (.ref Z.f_is_whole)
  b_is_whole : Binds Z.K Z.d_is_whole ["thing"] []
  F_are_wholes : Fun Z.K "are_wholes" "are_wholes" st_are_wholes Z.f_are_wholes Z.d_are_wholes
  m_are_wholes : Z.mg "are_wholes" = some (.ref Z.f_are_wholes)
  b_are_wholes : Binds Z.K Z.d_are_wholes ["things", "many"] []
  F_fits_op : Fun Z.K "fits_op" "fits_op" st_fits_op Z.f_fits_op Z.d_fits_op
  m_fits_op : Z.mg "fits_op" = some (.ref Z.f_fits_op)
  b_fits_op : Binds Z.K Z.d_fits_op ["op", "number", "functions", "rows"] []
  F_fits_head : Fun Z.K "fits_head" "fits_head" st_fits_head Z.f_fits_head Z.d_fits_head
  m_fits_head : Z.mg "fits_head" = some (.ref Z.f_fits_head)
  b_fits_head : Binds Z.K Z.d_fits_head ["head", "at", "rows"] []
  F_make_code : Fun Z.K "make_code" "make_code" st_make_code Z.f_make_code Z.d_make_code
  m_make_code : Z.mg "make_code" = some (.ref Z.f_make_code)
  b_make_code : Binds Z.K Z.d_make_code ["heads", "rows"] []
  F_cut_up : Fun Z.K "cut_up" "cut_up" st_cut_up Z.f_cut_up Z.d_cut_up
  m_cut_up : Z.mg "cut_up" = some (.ref Z.f_cut_up)
  b_cut_up : Binds Z.K Z.d_cut_up ["numbers", "size"] []
  F_parted_code : Fun Z.K "parted_code" "parted_code" st_parted_code Z.f_parted_code Z.d_parted_code
  m_parted_code : Z.mg "parted_code" = some (.ref Z.f_parted_code)
  b_parted_code : Binds Z.K Z.d_parted_code ["thing"] []
  F_is_code : Fun Z.K "is_code" "is_code" st_is_code Z.f_is_code Z.d_is_code
  m_is_code : Z.mg "is_code" = some (.ref Z.f_is_code)
  b_is_code : Binds Z.K Z.d_is_code ["thing"] []
  F_heads_of : Fun Z.K "heads_of" "heads_of" st_heads_of Z.f_heads_of Z.d_heads_of
  m_heads_of : Z.mg "heads_of" = some (.ref Z.f_heads_of)
  b_heads_of : Binds Z.K Z.d_heads_of ["code"] []
  F_rows_of : Fun Z.K "rows_of" "rows_of" st_rows_of Z.f_rows_of Z.d_rows_of
  m_rows_of : Z.mg "rows_of" = some (.ref Z.f_rows_of)
  b_rows_of : Binds Z.K Z.d_rows_of ["code"] []
  F_code_of : Fun Z.K "code_of" "code_of" st_code_of Z.f_code_of Z.d_code_of
  m_code_of : Z.mg "code_of" = some (.ref Z.f_code_of)
  b_code_of : Binds Z.K Z.d_code_of ["heads", "rows"] []
  F_summed : Fun Z.K "summed" "summed" st_summed Z.f_summed Z.d_summed
  m_summed : Z.mg "summed" = some (.ref Z.f_summed)
  b_summed : Binds Z.K Z.d_summed ["kind", "one", "other"] []
  F_parted_by : Fun Z.K "parted_by" "parted_by" st_parted_by Z.f_parted_by Z.d_parted_by
  m_parted_by : Z.mg "parted_by" = some (.ref Z.f_parted_by)
  b_parted_by : Binds Z.K Z.d_parted_by ["kind", "one", "other"] []
  F_of_numbers : Fun Z.K "of_numbers" "of_numbers" st_of_numbers Z.f_of_numbers Z.d_of_numbers
  m_of_numbers : Z.mg "of_numbers" = some (.ref Z.f_of_numbers)
  b_of_numbers : Binds Z.K Z.d_of_numbers ["kind", "values"] []
  F_of_row : Fun Z.K "of_row" "of_row" st_of_row Z.f_of_row Z.d_of_row
  m_of_row : Z.mg "of_row" = some (.ref Z.f_of_row)
  b_of_row : Binds Z.K Z.d_of_row ["kind", "values", "row"] []
  F_worth : Fun Z.K "worth" "worth" st_worth Z.f_worth Z.d_worth
  m_worth : Z.mg "worth" = some (.ref Z.f_worth)
  b_worth : Binds Z.K Z.d_worth ["kind", "values", "rows"] []
  F_parts_of : Fun Z.K "parts_of" "parts_of" st_parts_of Z.f_parts_of Z.d_parts_of
  m_parts_of : Z.mg "parts_of" = some (.ref Z.f_parts_of)
  b_parts_of : Binds Z.K Z.d_parts_of ["kind"] []
  F_Frame_init : Fun Z.K "__init__" "Frame.__init__" st_Frame_init Z.f_Frame_init Z.d_Frame_init
  b_Frame_init : Binds Z.K Z.d_Frame_init ["self", "start", "boxes"] []
  F_Frame_take : Fun Z.K "take" "Frame.take" st_Frame_take Z.f_Frame_take Z.d_Frame_take
  b_Frame_take : Binds Z.K Z.d_Frame_take ["self", "many"] []
  F_Frame_lay : Fun Z.K "lay" "Frame.lay" st_Frame_lay Z.f_Frame_lay Z.d_Frame_lay
  b_Frame_lay : Binds Z.K Z.d_Frame_lay ["self", "value"] []
  F_Machine_init : Fun Z.K "__init__" "Machine.__init__" st_Machine_init Z.f_Machine_init Z.d_Machine_init
  b_Machine_init : Binds Z.K Z.d_Machine_init ["self", "code", "given", "breaths"] []
  F_Machine_breathe : Fun Z.K "breathe" "Machine.breathe" st_Machine_breathe Z.f_Machine_breathe Z.d_Machine_breathe
  b_Machine_breathe : Binds Z.K Z.d_Machine_breathe ["self"] []
  F_Machine_begin : Fun Z.K "begin" "Machine.begin" st_Machine_begin Z.f_Machine_begin Z.d_Machine_begin
  b_Machine_begin : Binds Z.K Z.d_Machine_begin ["self", "function", "params"] []
  F_Machine_call : Fun Z.K "call" "Machine.call" st_Machine_call Z.f_Machine_call Z.d_Machine_call
  b_Machine_call : Binds Z.K Z.d_Machine_call ["self", "frame", "function"] []
  F_Machine_back : Fun Z.K "back" "Machine.back" st_Machine_back Z.f_Machine_back Z.d_Machine_back
  b_Machine_back : Binds Z.K Z.d_Machine_back ["self", "frame"] []
  F_Machine_fail : Fun Z.K "fail" "Machine.fail" st_Machine_fail Z.f_Machine_fail Z.d_Machine_fail
  b_Machine_fail : Binds Z.K Z.d_Machine_fail ["self", "frame"] []
  F_Machine_deed : Fun Z.K "deed" "Machine.deed" st_Machine_deed Z.f_Machine_deed Z.d_Machine_deed
  b_Machine_deed : Binds Z.K Z.d_Machine_deed ["self", "frame", "kind"] []
  F_Machine_boxed : Fun Z.K "boxed" "Machine.boxed" st_Machine_boxed Z.f_Machine_boxed Z.d_Machine_boxed
  b_Machine_boxed : Binds Z.K Z.d_Machine_boxed ["self", "frame", "op", "box"] []
  F_Machine_led : Fun Z.K "led" "Machine.led" st_Machine_led Z.f_Machine_led Z.d_Machine_led
  b_Machine_led : Binds Z.K Z.d_Machine_led ["self", "frame", "op", "number"] []
  F_Machine_plain_row : Fun Z.K "plain_row" "Machine.plain_row" st_Machine_plain_row Z.f_Machine_plain_row Z.d_Machine_plain_row
  b_Machine_plain_row : Binds Z.K Z.d_Machine_plain_row ["self", "frame", "op", "number"] []
  F_Machine_step : Fun Z.K "step" "Machine.step" st_Machine_step Z.f_Machine_step Z.d_Machine_step
  b_Machine_step : Binds Z.K Z.d_Machine_step ["self", "frame"] []
  F_Machine_go_on : Fun Z.K "go_on" "Machine.go_on" st_Machine_go_on Z.f_Machine_go_on Z.d_Machine_go_on
  b_Machine_go_on : Binds Z.K Z.d_Machine_go_on ["self", "most"] []
  F_go : Fun Z.K "go" "go" st_go Z.f_go Z.d_go
  m_go : Z.mg "go" = some (.ref Z.f_go)
  b_go : Binds Z.K Z.d_go ["code", "given", "breaths", "most"] []
  F_Lpen : Fun Z.K "_law_pen" "_law_pen" st_Lpen Z.f_Lpen Z.d_Lpen
  m_Lpen : Z.mg "_law_pen" = some (.ref Z.f_Lpen)
  b_Lpen : Binds Z.K Z.d_Lpen ["_law_script"] []
  F_Lmixed : Fun Z.K "_law_mixed" "_law_mixed" st_Lmixed Z.f_Lmixed Z.d_Lmixed
  m_Lmixed : Z.mg "_law_mixed" = some (.ref Z.f_Lmixed)
  b_Lmixed : Binds Z.K Z.d_Lmixed ["_law_cell", "_law_turn"] []
  F_Ltake : Fun Z.K "_law_take" "_law_take" st_Ltake Z.f_Ltake Z.d_Ltake
  m_Ltake : Z.mg "_law_take" = some (.ref Z.f_Ltake)
  b_Ltake : Binds Z.K Z.d_Ltake ["_law_pen_here", "_law_many"] []
  F_Lnumber : Fun Z.K "_law_number" "_law_number" st_Lnumber Z.f_Lnumber Z.d_Lnumber
  m_Lnumber : Z.mg "_law_number" = some (.ref Z.f_Lnumber)
  b_Lnumber : Binds Z.K Z.d_Lnumber ["_law_pen_here"] []
  F_Lneeds : Fun Z.K "_law_needs" "_law_needs" st_Lneeds Z.f_Lneeds Z.d_Lneeds
  m_Lneeds : Z.mg "_law_needs" = some (.ref Z.f_Lneeds)
  b_Lneeds : Binds Z.K Z.d_Lneeds ["_law_op", "_law_number_here", "_law_heads"] []
  F_Lrow : Fun Z.K "_law_row" "_law_row" st_Lrow Z.f_Lrow Z.d_Lrow
  m_Lrow : Z.mg "_law_row" = some (.ref Z.f_Lrow)
  b_Lrow : Binds Z.K Z.d_Lrow ["_law_pen_here", "_law_height_here", "_law_many", "_law_heads"] []
  F_Lheight : Fun Z.K "_law_height" "_law_height" st_Lheight Z.f_Lheight Z.d_Lheight
  m_Lheight : Z.mg "_law_height" = some (.ref Z.f_Lheight)
  b_Lheight : Binds Z.K Z.d_Lheight ["_law_op", "_law_number_here", "_law_heads", "_law_height_here"] []
  F_Lcode : Fun Z.K "_law_code" "_law_code" st_Lcode Z.f_Lcode Z.d_Lcode
  m_Lcode : Z.mg "_law_code" = some (.ref Z.f_Lcode)
  b_Lcode : Binds Z.K Z.d_Lcode ["_law_pen_here"] []
  F_Lword : Fun Z.K "_law_word" "_law_word" st_Lword Z.f_Lword Z.d_Lword
  m_Lword : Z.mg "_law_word" = some (.ref Z.f_Lword)
  b_Lword : Binds Z.K Z.d_Lword ["_law_caught"] []
  F_Lbad_row : Fun Z.K "_law_bad_row" "_law_bad_row" st_Lbad_row Z.f_Lbad_row Z.d_Lbad_row
  m_Lbad_row : Z.mg "_law_bad_row" = some (.ref Z.f_Lbad_row)
  b_Lbad_row : Binds Z.K Z.d_Lbad_row ["_law_pen_here", "_law_many", "_law_count"] []
  F_Lbad_head : Fun Z.K "_law_bad_head" "_law_bad_head" st_Lbad_head Z.f_Lbad_head Z.d_Lbad_head
  m_Lbad_head : Z.mg "_law_bad_head" = some (.ref Z.f_Lbad_head)
  b_Lbad_head : Binds Z.K Z.d_Lbad_head ["_law_pen_here", "_law_head", "_law_at", "_law_many"] []
  F_Lflat : Fun Z.K "_law_flat" "_law_flat" st_Lflat Z.f_Lflat Z.d_Lflat
  m_Lflat : Z.mg "_law_flat" = some (.ref Z.f_Lflat)
  b_Lflat : Binds Z.K Z.d_Lflat ["_law_heads", "_law_rows"] []
  F_Lbent : Fun Z.K "_law_bent" "_law_bent" st_Lbent Z.f_Lbent Z.d_Lbent
  m_Lbent : Z.mg "_law_bent" = some (.ref Z.f_Lbent)
  b_Lbent : Binds Z.K Z.d_Lbent ["_law_pen_here", "_law_heads", "_law_rows"] []
  F_Lodd : Fun Z.K "_law_odd" "_law_odd" st_Lodd Z.f_Lodd Z.d_Lodd
  m_Lodd : Z.mg "_law_odd" = some (.ref Z.f_Lodd)
  b_Lodd : Binds Z.K Z.d_Lodd ["_law_pen_here", "_law_numbers"] []
  F_Ltried : Fun Z.K "_law_tried" "_law_tried" st_Ltried Z.f_Ltried Z.d_Ltried
  m_Ltried : Z.mg "_law_tried" = some (.ref Z.f_Ltried)
  b_Ltried : Binds Z.K Z.d_Ltried ["_law_way", "_law_one", "_law_other"] []
  F_Lrefused : Fun Z.K "_law_refused" "_law_refused" st_Lrefused Z.f_Lrefused Z.d_Lrefused
  m_Lrefused : Z.mg "_law_refused" = some (.ref Z.f_Lrefused)
  b_Lrefused : Binds Z.K Z.d_Lrefused ["_law_thing"] []
  F_law : Fun Z.K "law" "law" st_law Z.f_law Z.d_law
  m_law : Z.mg "law" = some (.ref Z.f_law)
  b_law : Binds Z.K Z.d_law ["_law_script"] []
  g_Frame : Z.mg "Frame" = some (.ref Z.c_Frame)
  cl_Frame : Cls Z.K Z.c_Frame
  M_Frame : Mk Z.K Z.c_Frame Z.f_Frame_init
  mt_Frame_take : Meth Z.K Z.c_Frame "take" Z.f_Frame_take
  mt_Frame_lay : Meth Z.K Z.c_Frame "lay" Z.f_Frame_lay
  na_Frame_at : NoAttr Z.K Z.c_Frame "at"
  na_Frame_boxes : NoAttr Z.K Z.c_Frame "boxes"
  na_Frame_values_there : NoAttr Z.K Z.c_Frame "values_there"
  g_Machine : Z.mg "Machine" = some (.ref Z.c_Machine)
  cl_Machine : Cls Z.K Z.c_Machine
  M_Machine : Mk Z.K Z.c_Machine Z.f_Machine_init
  mt_Machine_breathe : Meth Z.K Z.c_Machine "breathe" Z.f_Machine_breathe
  mt_Machine_begin : Meth Z.K Z.c_Machine "begin" Z.f_Machine_begin
  mt_Machine_call : Meth Z.K Z.c_Machine "call" Z.f_Machine_call
  mt_Machine_back : Meth Z.K Z.c_Machine "back" Z.f_Machine_back
  mt_Machine_fail : Meth Z.K Z.c_Machine "fail" Z.f_Machine_fail
  mt_Machine_deed : Meth Z.K Z.c_Machine "deed" Z.f_Machine_deed
  mt_Machine_boxed : Meth Z.K Z.c_Machine "boxed" Z.f_Machine_boxed
  mt_Machine_led : Meth Z.K Z.c_Machine "led" Z.f_Machine_led
  mt_Machine_plain_row : Meth Z.K Z.c_Machine "plain_row" Z.f_Machine_plain_row
  mt_Machine_step : Meth Z.K Z.c_Machine "step" Z.f_Machine_step
  mt_Machine_go_on : Meth Z.K Z.c_Machine "go_on" Z.f_Machine_go_on
  na_Machine_heads : NoAttr Z.K Z.c_Machine "heads"
  na_Machine_code_rows : NoAttr Z.K Z.c_Machine "code_rows"
  na_Machine_heap : NoAttr Z.K Z.c_Machine "heap"
  na_Machine_breaths : NoAttr Z.K Z.c_Machine "breaths"
  na_Machine_frames : NoAttr Z.K Z.c_Machine "frames"
  na_Machine_number : NoAttr Z.K Z.c_Machine "number"
  g_ChainError : Z.mg "ChainError" = some (.ref Z.c_ChainError)
  g_NoSheet : Z.mg "NoSheet" = some (.ref Z.c_NoSheet)
  g_NoText : Z.mg "NoText" = some (.ref Z.c_NoText)
  g_NoCode : Z.mg "NoCode" = some (.ref Z.c_NoCode)
  oq_NoCode : PySem.W.excIn Z.K Z.c_NoCode [.type "ValueError", .type "Exception", .type "BaseException", .type "object"] "ValueError.__new__" = true
  ok_NoCode : PySem.W.keepIn Z.K (.ref Z.c_NoCode) = true
  ob_NoCode : PySem.W.subIn Z.K (.ref Z.c_NoCode) (.type "BaseException") = some true
  oy_NoCode : PySem.W.typeIn Z.K (.ref Z.c_NoCode) = some (.type "type")
  kx_NoCode : ExcC Z.K Z.c_NoCode
  kv_NoCode : PySem.W.kitOne Z.K (.ref Z.c_NoCode) (.type "ValueError") = some true
  ki_NoCode_NoCode : PySem.W.kitOne Z.K (.ref Z.c_NoCode) (.ref Z.c_NoCode) = some true
  ki_NoCode_NoName : PySem.W.kitOne Z.K (.ref Z.c_NoCode) (.ref Z.c_NoName) = some false
  ki_NoCode_NoRow : PySem.W.kitOne Z.K (.ref Z.c_NoCode) (.ref Z.c_NoRow) = some false
  ki_NoCode_NoSheet : PySem.W.kitOne Z.K (.ref Z.c_NoCode) (.ref Z.c_NoSheet) = some false
  ki_NoCode_NoText : PySem.W.kitOne Z.K (.ref Z.c_NoCode) (.ref Z.c_NoText) = some false
  ex_NoCode_ChainError : PySem.W.exmOne Z.K (.ref Z.c_NoCode) (.ref Z.c_ChainError) = some true
  ex_NoCode_NoCode : PySem.W.exmOne Z.K (.ref Z.c_NoCode) (.ref Z.c_NoCode) = some true
  g_NoRow : Z.mg "NoRow" = some (.ref Z.c_NoRow)
  g_NoName : Z.mg "NoName" = some (.ref Z.c_NoName)
theorem Top.k_all {Z : Adr} (_ : Top Z) : True := trivial
theorem Top.k_is_whole {Z : Adr} (T : Top Z) : PySem.W.keepIn Z.K (.ref Z.f_is_whole) = true := T.F_is_whole.kp
theorem Top.k_are_wholes {Z : Adr} (T : Top Z) : PySem.W.keepIn Z.K (.ref Z.f_are_wholes) = true := T.F_are_wholes.kp
theorem Top.k_fits_op {Z : Adr} (T : Top Z) : PySem.W.keepIn Z.K (.ref Z.f_fits_op) = true := T.F_fits_op.kp
theorem Top.k_fits_head {Z : Adr} (T : Top Z) : PySem.W.keepIn Z.K (.ref Z.f_fits_head) = true := T.F_fits_head.kp
theorem Top.k_make_code {Z : Adr} (T : Top Z) : PySem.W.keepIn Z.K (.ref Z.f_make_code) = true := T.F_make_code.kp
theorem Top.k_cut_up {Z : Adr} (T : Top Z) : PySem.W.keepIn Z.K (.ref Z.f_cut_up) = true := T.F_cut_up.kp
theorem Top.k_parted_code {Z : Adr} (T : Top Z) : PySem.W.keepIn Z.K (.ref Z.f_parted_code) = true := T.F_parted_code.kp
theorem Top.k_is_code {Z : Adr} (T : Top Z) : PySem.W.keepIn Z.K (.ref Z.f_is_code) = true := T.F_is_code.kp
theorem Top.k_heads_of {Z : Adr} (T : Top Z) : PySem.W.keepIn Z.K (.ref Z.f_heads_of) = true := T.F_heads_of.kp
theorem Top.k_rows_of {Z : Adr} (T : Top Z) : PySem.W.keepIn Z.K (.ref Z.f_rows_of) = true := T.F_rows_of.kp
theorem Top.k_code_of {Z : Adr} (T : Top Z) : PySem.W.keepIn Z.K (.ref Z.f_code_of) = true := T.F_code_of.kp
theorem Top.k_summed {Z : Adr} (T : Top Z) : PySem.W.keepIn Z.K (.ref Z.f_summed) = true := T.F_summed.kp
theorem Top.k_parted_by {Z : Adr} (T : Top Z) : PySem.W.keepIn Z.K (.ref Z.f_parted_by) = true := T.F_parted_by.kp
theorem Top.k_of_numbers {Z : Adr} (T : Top Z) : PySem.W.keepIn Z.K (.ref Z.f_of_numbers) = true := T.F_of_numbers.kp
theorem Top.k_of_row {Z : Adr} (T : Top Z) : PySem.W.keepIn Z.K (.ref Z.f_of_row) = true := T.F_of_row.kp
theorem Top.k_worth {Z : Adr} (T : Top Z) : PySem.W.keepIn Z.K (.ref Z.f_worth) = true := T.F_worth.kp
theorem Top.k_parts_of {Z : Adr} (T : Top Z) : PySem.W.keepIn Z.K (.ref Z.f_parts_of) = true := T.F_parts_of.kp
theorem Top.k_Frame_init {Z : Adr} (T : Top Z) : PySem.W.keepIn Z.K (.ref Z.f_Frame_init) = true := T.F_Frame_init.kp
theorem Top.k_Frame_take {Z : Adr} (T : Top Z) : PySem.W.keepIn Z.K (.ref Z.f_Frame_take) = true := T.F_Frame_take.kp
theorem Top.k_Frame_lay {Z : Adr} (T : Top Z) : PySem.W.keepIn Z.K (.ref Z.f_Frame_lay) = true := T.F_Frame_lay.kp
theorem Top.k_Machine_init {Z : Adr} (T : Top Z) : PySem.W.keepIn Z.K (.ref Z.f_Machine_init) = true := T.F_Machine_init.kp
theorem Top.k_Machine_breathe {Z : Adr} (T : Top Z) : PySem.W.keepIn Z.K (.ref Z.f_Machine_breathe) = true := T.F_Machine_breathe.kp
theorem Top.k_Machine_begin {Z : Adr} (T : Top Z) : PySem.W.keepIn Z.K (.ref Z.f_Machine_begin) = true := T.F_Machine_begin.kp
theorem Top.k_Machine_call {Z : Adr} (T : Top Z) : PySem.W.keepIn Z.K (.ref Z.f_Machine_call) = true := T.F_Machine_call.kp
theorem Top.k_Machine_back {Z : Adr} (T : Top Z) : PySem.W.keepIn Z.K (.ref Z.f_Machine_back) = true := T.F_Machine_back.kp
theorem Top.k_Machine_fail {Z : Adr} (T : Top Z) : PySem.W.keepIn Z.K (.ref Z.f_Machine_fail) = true := T.F_Machine_fail.kp
theorem Top.k_Machine_deed {Z : Adr} (T : Top Z) : PySem.W.keepIn Z.K (.ref Z.f_Machine_deed) = true := T.F_Machine_deed.kp
theorem Top.k_Machine_boxed {Z : Adr} (T : Top Z) : PySem.W.keepIn Z.K (.ref Z.f_Machine_boxed) = true := T.F_Machine_boxed.kp
theorem Top.k_Machine_led {Z : Adr} (T : Top Z) : PySem.W.keepIn Z.K (.ref Z.f_Machine_led) = true := T.F_Machine_led.kp
theorem Top.k_Machine_plain_row {Z : Adr} (T : Top Z) : PySem.W.keepIn Z.K (.ref Z.f_Machine_plain_row) = true := T.F_Machine_plain_row.kp
theorem Top.k_Machine_step {Z : Adr} (T : Top Z) : PySem.W.keepIn Z.K (.ref Z.f_Machine_step) = true := T.F_Machine_step.kp
theorem Top.k_Machine_go_on {Z : Adr} (T : Top Z) : PySem.W.keepIn Z.K (.ref Z.f_Machine_go_on) = true := T.F_Machine_go_on.kp
theorem Top.k_go {Z : Adr} (T : Top Z) : PySem.W.keepIn Z.K (.ref Z.f_go) = true := T.F_go.kp
theorem Top.k_Lpen {Z : Adr} (T : Top Z) : PySem.W.keepIn Z.K (.ref Z.f_Lpen) = true := T.F_Lpen.kp
theorem Top.k_Lmixed {Z : Adr} (T : Top Z) : PySem.W.keepIn Z.K (.ref Z.f_Lmixed) = true := T.F_Lmixed.kp
theorem Top.k_Ltake {Z : Adr} (T : Top Z) : PySem.W.keepIn Z.K (.ref Z.f_Ltake) = true := T.F_Ltake.kp
theorem Top.k_Lnumber {Z : Adr} (T : Top Z) : PySem.W.keepIn Z.K (.ref Z.f_Lnumber) = true := T.F_Lnumber.kp
theorem Top.k_Lneeds {Z : Adr} (T : Top Z) : PySem.W.keepIn Z.K (.ref Z.f_Lneeds) = true := T.F_Lneeds.kp
theorem Top.k_Lrow {Z : Adr} (T : Top Z) : PySem.W.keepIn Z.K (.ref Z.f_Lrow) = true := T.F_Lrow.kp
theorem Top.k_Lheight {Z : Adr} (T : Top Z) : PySem.W.keepIn Z.K (.ref Z.f_Lheight) = true := T.F_Lheight.kp
theorem Top.k_Lcode {Z : Adr} (T : Top Z) : PySem.W.keepIn Z.K (.ref Z.f_Lcode) = true := T.F_Lcode.kp
theorem Top.k_Lword {Z : Adr} (T : Top Z) : PySem.W.keepIn Z.K (.ref Z.f_Lword) = true := T.F_Lword.kp
theorem Top.k_Lbad_row {Z : Adr} (T : Top Z) : PySem.W.keepIn Z.K (.ref Z.f_Lbad_row) = true := T.F_Lbad_row.kp
theorem Top.k_Lbad_head {Z : Adr} (T : Top Z) : PySem.W.keepIn Z.K (.ref Z.f_Lbad_head) = true := T.F_Lbad_head.kp
theorem Top.k_Lflat {Z : Adr} (T : Top Z) : PySem.W.keepIn Z.K (.ref Z.f_Lflat) = true := T.F_Lflat.kp
theorem Top.k_Lbent {Z : Adr} (T : Top Z) : PySem.W.keepIn Z.K (.ref Z.f_Lbent) = true := T.F_Lbent.kp
theorem Top.k_Lodd {Z : Adr} (T : Top Z) : PySem.W.keepIn Z.K (.ref Z.f_Lodd) = true := T.F_Lodd.kp
theorem Top.k_Ltried {Z : Adr} (T : Top Z) : PySem.W.keepIn Z.K (.ref Z.f_Ltried) = true := T.F_Ltried.kp
theorem Top.k_Lrefused {Z : Adr} (T : Top Z) : PySem.W.keepIn Z.K (.ref Z.f_Lrefused) = true := T.F_Lrefused.kp
theorem Top.k_law {Z : Adr} (T : Top Z) : PySem.W.keepIn Z.K (.ref Z.f_law) = true := T.F_law.kp
def fs_Frame (v_at v_boxes v_values_there : V) : List (Str × V) := [(("at" : Str), v_at), (("boxes" : Str), v_boxes), (("values_there" : Str), v_values_there)]
def fi_Frame_1 (v_at : V) : List (Str × V) := [(("at" : Str), v_at)]
def fi_Frame_2 (v_at v_boxes : V) : List (Str × V) := [(("at" : Str), v_at), (("boxes" : Str), v_boxes)]
theorem get_Frame_at {v_at v_boxes v_values_there : V} : (fs_Frame v_at v_boxes v_values_there).lookup ("at" : Str) = some v_at := by unfold fs_Frame; rw [lk_eq]
theorem put_Frame_at {v_at v_boxes v_values_there y : V} : putF ("at" : Str) y (fs_Frame v_at v_boxes v_values_there) = fs_Frame y v_boxes v_values_there := by unfold fs_Frame; rw [pu_eq]
theorem fg_Frame_at {Z : Adr} (T : Top Z) {H : Hp} {p dx : Addr} {v_at v_boxes v_values_there : V} {Q : VK} (h1 : H p = some (.ins Z.c_Frame dx (fs_Frame v_at v_boxes v_values_there))) (q : Q v_at H) : zFld Z.K (.ref p) ("at" : Str) H Q := s_zFld h1 T.cl_Frame T.na_Frame_at get_Frame_at q
theorem fp_Frame_at {Z : Adr} (T : Top Z) {H : Hp} {p dx : Addr} {v_at v_boxes v_values_there y : V} {N1 : Hp → Prop} (h1 : H p = some (.ins Z.c_Frame dx (fs_Frame v_at v_boxes v_values_there))) (h : ∀ H', But p H H' → H' p = some (.ins Z.c_Frame dx (fs_Frame y v_boxes v_values_there)) → N1 H') : zPutF Z.K (.ref p) ("at" : Str) y H N1 := c_fld h1 T.cl_Frame T.na_Frame_at (by show 3 < 1000; decide) put_Frame_at h
theorem fn_Frame_at {Z : Adr} (T : Top Z) {H : Hp} {p dx : Addr} { y : V} {N1 : Hp → Prop} (h1 : H p = some (.ins Z.c_Frame dx [])) (h : ∀ H', But p H H' → H' p = some (.ins Z.c_Frame dx (fi_Frame_1  y)) → N1 H') : zPutF Z.K (.ref p) ("at" : Str) y H N1 := c_fld h1 T.cl_Frame T.na_Frame_at (by show 0 < 1000; decide) (by rw [pu_nil]; rfl) h
theorem get_Frame_boxes {v_at v_boxes v_values_there : V} : (fs_Frame v_at v_boxes v_values_there).lookup ("boxes" : Str) = some v_boxes := by unfold fs_Frame; rw [lk_ne (by decide +kernel), lk_eq]
theorem put_Frame_boxes {v_at v_boxes v_values_there y : V} : putF ("boxes" : Str) y (fs_Frame v_at v_boxes v_values_there) = fs_Frame v_at y v_values_there := by unfold fs_Frame; rw [pu_ne (by decide +kernel), pu_eq]
theorem fg_Frame_boxes {Z : Adr} (T : Top Z) {H : Hp} {p dx : Addr} {v_at v_boxes v_values_there : V} {Q : VK} (h1 : H p = some (.ins Z.c_Frame dx (fs_Frame v_at v_boxes v_values_there))) (q : Q v_boxes H) : zFld Z.K (.ref p) ("boxes" : Str) H Q := s_zFld h1 T.cl_Frame T.na_Frame_boxes get_Frame_boxes q
theorem fp_Frame_boxes {Z : Adr} (T : Top Z) {H : Hp} {p dx : Addr} {v_at v_boxes v_values_there y : V} {N1 : Hp → Prop} (h1 : H p = some (.ins Z.c_Frame dx (fs_Frame v_at v_boxes v_values_there))) (h : ∀ H', But p H H' → H' p = some (.ins Z.c_Frame dx (fs_Frame v_at y v_values_there)) → N1 H') : zPutF Z.K (.ref p) ("boxes" : Str) y H N1 := c_fld h1 T.cl_Frame T.na_Frame_boxes (by show 3 < 1000; decide) put_Frame_boxes h
theorem fn_Frame_boxes {Z : Adr} (T : Top Z) {H : Hp} {p dx : Addr} {v_at y : V} {N1 : Hp → Prop} (h1 : H p = some (.ins Z.c_Frame dx (fi_Frame_1 v_at))) (h : ∀ H', But p H H' → H' p = some (.ins Z.c_Frame dx (fi_Frame_2 v_at y)) → N1 H') : zPutF Z.K (.ref p) ("boxes" : Str) y H N1 := c_fld h1 T.cl_Frame T.na_Frame_boxes (by show 1 < 1000; decide) (by unfold fi_Frame_1; rw [pu_ne (by decide +kernel), pu_nil]; rfl) h
theorem get_Frame_values_there {v_at v_boxes v_values_there : V} : (fs_Frame v_at v_boxes v_values_there).lookup ("values_there" : Str) = some v_values_there := by unfold fs_Frame; rw [lk_ne (by decide +kernel), lk_ne (by decide +kernel), lk_eq]
theorem put_Frame_values_there {v_at v_boxes v_values_there y : V} : putF ("values_there" : Str) y (fs_Frame v_at v_boxes v_values_there) = fs_Frame v_at v_boxes y := by unfold fs_Frame; rw [pu_ne (by decide +kernel), pu_ne (by decide +kernel), pu_eq]
theorem fg_Frame_values_there {Z : Adr} (T : Top Z) {H : Hp} {p dx : Addr} {v_at v_boxes v_values_there : V} {Q : VK} (h1 : H p = some (.ins Z.c_Frame dx (fs_Frame v_at v_boxes v_values_there))) (q : Q v_values_there H) : zFld Z.K (.ref p) ("values_there" : Str) H Q := s_zFld h1 T.cl_Frame T.na_Frame_values_there get_Frame_values_there q
theorem fp_Frame_values_there {Z : Adr} (T : Top Z) {H : Hp} {p dx : Addr} {v_at v_boxes v_values_there y : V} {N1 : Hp → Prop} (h1 : H p = some (.ins Z.c_Frame dx (fs_Frame v_at v_boxes v_values_there))) (h : ∀ H', But p H H' → H' p = some (.ins Z.c_Frame dx (fs_Frame v_at v_boxes y)) → N1 H') : zPutF Z.K (.ref p) ("values_there" : Str) y H N1 := c_fld h1 T.cl_Frame T.na_Frame_values_there (by show 3 < 1000; decide) put_Frame_values_there h
theorem fn_Frame_values_there {Z : Adr} (T : Top Z) {H : Hp} {p dx : Addr} {v_at v_boxes y : V} {N1 : Hp → Prop} (h1 : H p = some (.ins Z.c_Frame dx (fi_Frame_2 v_at v_boxes))) (h : ∀ H', But p H H' → H' p = some (.ins Z.c_Frame dx (fs_Frame v_at v_boxes y)) → N1 H') : zPutF Z.K (.ref p) ("values_there" : Str) y H N1 := c_fld h1 T.cl_Frame T.na_Frame_values_there (by show 2 < 1000; decide) (by unfold fi_Frame_2; rw [pu_ne (by decide +kernel), pu_ne (by decide +kernel), pu_nil]; rfl) h
theorem nx_Frame_take {v_at v_boxes v_values_there : V} : (fs_Frame v_at v_boxes v_values_there).lookup ("take" : Str) = none := by unfold fs_Frame; rw [lk_ne (by decide +kernel), lk_ne (by decide +kernel), lk_ne (by decide +kernel)]; rfl
theorem ms_Frame_take {Z : Adr} {H : Hp} {p dx : Addr} {v_at v_boxes v_values_there : V} {N1 : Prop} (h1 : H p = some (.ins Z.c_Frame dx (fs_Frame v_at v_boxes v_values_there))) (h : N1) : zSelf Z.c_Frame ("take" : Str) (.ref p) H N1 := s_zself h1 nx_Frame_take h
theorem nx_Frame_lay {v_at v_boxes v_values_there : V} : (fs_Frame v_at v_boxes v_values_there).lookup ("lay" : Str) = none := by unfold fs_Frame; rw [lk_ne (by decide +kernel), lk_ne (by decide +kernel), lk_ne (by decide +kernel)]; rfl
theorem ms_Frame_lay {Z : Adr} {H : Hp} {p dx : Addr} {v_at v_boxes v_values_there : V} {N1 : Prop} (h1 : H p = some (.ins Z.c_Frame dx (fs_Frame v_at v_boxes v_values_there))) (h : N1) : zSelf Z.c_Frame ("lay" : Str) (.ref p) H N1 := s_zself h1 nx_Frame_lay h
def fs_Machine (v_heads v_code_rows v_heap v_breaths v_frames v_number : V) : List (Str × V) := [(("heads" : Str), v_heads), (("code_rows" : Str), v_code_rows), (("heap" : Str), v_heap), (("breaths" : Str), v_breaths), (("frames" : Str), v_frames), (("number" : Str), v_number)]
def fi_Machine_1 (v_heads : V) : List (Str × V) := [(("heads" : Str), v_heads)]
def fi_Machine_2 (v_heads v_code_rows : V) : List (Str × V) := [(("heads" : Str), v_heads), (("code_rows" : Str), v_code_rows)]
def fi_Machine_3 (v_heads v_code_rows v_heap : V) : List (Str × V) := [(("heads" : Str), v_heads), (("code_rows" : Str), v_code_rows), (("heap" : Str), v_heap)]
def fi_Machine_4 (v_heads v_code_rows v_heap v_breaths : V) : List (Str × V) := [(("heads" : Str), v_heads), (("code_rows" : Str), v_code_rows), (("heap" : Str), v_heap), (("breaths" : Str), v_breaths)]
def fi_Machine_5 (v_heads v_code_rows v_heap v_breaths v_frames : V) : List (Str × V) := [(("heads" : Str), v_heads), (("code_rows" : Str), v_code_rows), (("heap" : Str), v_heap), (("breaths" : Str), v_breaths), (("frames" : Str), v_frames)]
theorem get_Machine_heads {v_heads v_code_rows v_heap v_breaths v_frames v_number : V} : (fs_Machine v_heads v_code_rows v_heap v_breaths v_frames v_number).lookup ("heads" : Str) = some v_heads := by unfold fs_Machine; rw [lk_eq]
theorem put_Machine_heads {v_heads v_code_rows v_heap v_breaths v_frames v_number y : V} : putF ("heads" : Str) y (fs_Machine v_heads v_code_rows v_heap v_breaths v_frames v_number) = fs_Machine y v_code_rows v_heap v_breaths v_frames v_number := by unfold fs_Machine; rw [pu_eq]
theorem fg_Machine_heads {Z : Adr} (T : Top Z) {H : Hp} {p dx : Addr} {v_heads v_code_rows v_heap v_breaths v_frames v_number : V} {Q : VK} (h1 : H p = some (.ins Z.c_Machine dx (fs_Machine v_heads v_code_rows v_heap v_breaths v_frames v_number))) (q : Q v_heads H) : zFld Z.K (.ref p) ("heads" : Str) H Q := s_zFld h1 T.cl_Machine T.na_Machine_heads get_Machine_heads q
theorem fp_Machine_heads {Z : Adr} (T : Top Z) {H : Hp} {p dx : Addr} {v_heads v_code_rows v_heap v_breaths v_frames v_number y : V} {N1 : Hp → Prop} (h1 : H p = some (.ins Z.c_Machine dx (fs_Machine v_heads v_code_rows v_heap v_breaths v_frames v_number))) (h : ∀ H', But p H H' → H' p = some (.ins Z.c_Machine dx (fs_Machine y v_code_rows v_heap v_breaths v_frames v_number)) → N1 H') : zPutF Z.K (.ref p) ("heads" : Str) y H N1 := c_fld h1 T.cl_Machine T.na_Machine_heads (by show 6 < 1000; decide) put_Machine_heads h
theorem fn_Machine_heads {Z : Adr} (T : Top Z) {H : Hp} {p dx : Addr} { y : V} {N1 : Hp → Prop} (h1 : H p = some (.ins Z.c_Machine dx [])) (h : ∀ H', But p H H' → H' p = some (.ins Z.c_Machine dx (fi_Machine_1  y)) → N1 H') : zPutF Z.K (.ref p) ("heads" : Str) y H N1 := c_fld h1 T.cl_Machine T.na_Machine_heads (by show 0 < 1000; decide) (by rw [pu_nil]; rfl) h
theorem get_Machine_code_rows {v_heads v_code_rows v_heap v_breaths v_frames v_number : V} : (fs_Machine v_heads v_code_rows v_heap v_breaths v_frames v_number).lookup ("code_rows" : Str) = some v_code_rows := by unfold fs_Machine; rw [lk_ne (by decide +kernel), lk_eq]
theorem put_Machine_code_rows {v_heads v_code_rows v_heap v_breaths v_frames v_number y : V} : putF ("code_rows" : Str) y (fs_Machine v_heads v_code_rows v_heap v_breaths v_frames v_number) = fs_Machine v_heads y v_heap v_breaths v_frames v_number := by unfold fs_Machine; rw [pu_ne (by decide +kernel), pu_eq]
theorem fg_Machine_code_rows {Z : Adr} (T : Top Z) {H : Hp} {p dx : Addr} {v_heads v_code_rows v_heap v_breaths v_frames v_number : V} {Q : VK} (h1 : H p = some (.ins Z.c_Machine dx (fs_Machine v_heads v_code_rows v_heap v_breaths v_frames v_number))) (q : Q v_code_rows H) : zFld Z.K (.ref p) ("code_rows" : Str) H Q := s_zFld h1 T.cl_Machine T.na_Machine_code_rows get_Machine_code_rows q
theorem fp_Machine_code_rows {Z : Adr} (T : Top Z) {H : Hp} {p dx : Addr} {v_heads v_code_rows v_heap v_breaths v_frames v_number y : V} {N1 : Hp → Prop} (h1 : H p = some (.ins Z.c_Machine dx (fs_Machine v_heads v_code_rows v_heap v_breaths v_frames v_number))) (h : ∀ H', But p H H' → H' p = some (.ins Z.c_Machine dx (fs_Machine v_heads y v_heap v_breaths v_frames v_number)) → N1 H') : zPutF Z.K (.ref p) ("code_rows" : Str) y H N1 := c_fld h1 T.cl_Machine T.na_Machine_code_rows (by show 6 < 1000; decide) put_Machine_code_rows h
theorem fn_Machine_code_rows {Z : Adr} (T : Top Z) {H : Hp} {p dx : Addr} {v_heads y : V} {N1 : Hp → Prop} (h1 : H p = some (.ins Z.c_Machine dx (fi_Machine_1 v_heads))) (h : ∀ H', But p H H' → H' p = some (.ins Z.c_Machine dx (fi_Machine_2 v_heads y)) → N1 H') : zPutF Z.K (.ref p) ("code_rows" : Str) y H N1 := c_fld h1 T.cl_Machine T.na_Machine_code_rows (by show 1 < 1000; decide) (by unfold fi_Machine_1; rw [pu_ne (by decide +kernel), pu_nil]; rfl) h
theorem get_Machine_heap {v_heads v_code_rows v_heap v_breaths v_frames v_number : V} : (fs_Machine v_heads v_code_rows v_heap v_breaths v_frames v_number).lookup ("heap" : Str) = some v_heap := by unfold fs_Machine; rw [lk_ne (by decide +kernel), lk_ne (by decide +kernel), lk_eq]
theorem put_Machine_heap {v_heads v_code_rows v_heap v_breaths v_frames v_number y : V} : putF ("heap" : Str) y (fs_Machine v_heads v_code_rows v_heap v_breaths v_frames v_number) = fs_Machine v_heads v_code_rows y v_breaths v_frames v_number := by unfold fs_Machine; rw [pu_ne (by decide +kernel), pu_ne (by decide +kernel), pu_eq]
theorem fg_Machine_heap {Z : Adr} (T : Top Z) {H : Hp} {p dx : Addr} {v_heads v_code_rows v_heap v_breaths v_frames v_number : V} {Q : VK} (h1 : H p = some (.ins Z.c_Machine dx (fs_Machine v_heads v_code_rows v_heap v_breaths v_frames v_number))) (q : Q v_heap H) : zFld Z.K (.ref p) ("heap" : Str) H Q := s_zFld h1 T.cl_Machine T.na_Machine_heap get_Machine_heap q
theorem fp_Machine_heap {Z : Adr} (T : Top Z) {H : Hp} {p dx : Addr} {v_heads v_code_rows v_heap v_breaths v_frames v_number y : V} {N1 : Hp → Prop} (h1 : H p = some (.ins Z.c_Machine dx (fs_Machine v_heads v_code_rows v_heap v_breaths v_frames v_number))) (h : ∀ H', But p H H' → H' p = some (.ins Z.c_Machine dx (fs_Machine v_heads v_code_rows y v_breaths v_frames v_number)) → N1 H') : zPutF Z.K (.ref p) ("heap" : Str) y H N1 := c_fld h1 T.cl_Machine T.na_Machine_heap (by show 6 < 1000; decide) put_Machine_heap h
theorem fn_Machine_heap {Z : Adr} (T : Top Z) {H : Hp} {p dx : Addr} {v_heads v_code_rows y : V} {N1 : Hp → Prop} (h1 : H p = some (.ins Z.c_Machine dx (fi_Machine_2 v_heads v_code_rows))) (h : ∀ H', But p H H' → H' p = some (.ins Z.c_Machine dx (fi_Machine_3 v_heads v_code_rows y)) → N1 H') : zPutF Z.K (.ref p) ("heap" : Str) y H N1 := c_fld h1 T.cl_Machine T.na_Machine_heap (by show 2 < 1000; decide) (by unfold fi_Machine_2; rw [pu_ne (by decide +kernel), pu_ne (by decide +kernel), pu_nil]; rfl) h
theorem get_Machine_breaths {v_heads v_code_rows v_heap v_breaths v_frames v_number : V} : (fs_Machine v_heads v_code_rows v_heap v_breaths v_frames v_number).lookup ("breaths" : Str) = some v_breaths := by unfold fs_Machine; rw [lk_ne (by decide +kernel), lk_ne (by decide +kernel), lk_ne (by decide +kernel), lk_eq]
theorem put_Machine_breaths {v_heads v_code_rows v_heap v_breaths v_frames v_number y : V} : putF ("breaths" : Str) y (fs_Machine v_heads v_code_rows v_heap v_breaths v_frames v_number) = fs_Machine v_heads v_code_rows v_heap y v_frames v_number := by unfold fs_Machine; rw [pu_ne (by decide +kernel), pu_ne (by decide +kernel), pu_ne (by decide +kernel), pu_eq]
theorem fg_Machine_breaths {Z : Adr} (T : Top Z) {H : Hp} {p dx : Addr} {v_heads v_code_rows v_heap v_breaths v_frames v_number : V} {Q : VK} (h1 : H p = some (.ins Z.c_Machine dx (fs_Machine v_heads v_code_rows v_heap v_breaths v_frames v_number))) (q : Q v_breaths H) : zFld Z.K (.ref p) ("breaths" : Str) H Q := s_zFld h1 T.cl_Machine T.na_Machine_breaths get_Machine_breaths q
theorem fp_Machine_breaths {Z : Adr} (T : Top Z) {H : Hp} {p dx : Addr} {v_heads v_code_rows v_heap v_breaths v_frames v_number y : V} {N1 : Hp → Prop} (h1 : H p = some (.ins Z.c_Machine dx (fs_Machine v_heads v_code_rows v_heap v_breaths v_frames v_number))) (h : ∀ H', But p H H' → H' p = some (.ins Z.c_Machine dx (fs_Machine v_heads v_code_rows v_heap y v_frames v_number)) → N1 H') : zPutF Z.K (.ref p) ("breaths" : Str) y H N1 := c_fld h1 T.cl_Machine T.na_Machine_breaths (by show 6 < 1000; decide) put_Machine_breaths h
theorem fn_Machine_breaths {Z : Adr} (T : Top Z) {H : Hp} {p dx : Addr} {v_heads v_code_rows v_heap y : V} {N1 : Hp → Prop} (h1 : H p = some (.ins Z.c_Machine dx (fi_Machine_3 v_heads v_code_rows v_heap))) (h : ∀ H', But p H H' → H' p = some (.ins Z.c_Machine dx (fi_Machine_4 v_heads v_code_rows v_heap y)) → N1 H') : zPutF Z.K (.ref p) ("breaths" : Str) y H N1 := c_fld h1 T.cl_Machine T.na_Machine_breaths (by show 3 < 1000; decide) (by unfold fi_Machine_3; rw [pu_ne (by decide +kernel), pu_ne (by decide +kernel), pu_ne (by decide +kernel), pu_nil]; rfl) h
theorem get_Machine_frames {v_heads v_code_rows v_heap v_breaths v_frames v_number : V} : (fs_Machine v_heads v_code_rows v_heap v_breaths v_frames v_number).lookup ("frames" : Str) = some v_frames := by unfold fs_Machine; rw [lk_ne (by decide +kernel), lk_ne (by decide +kernel), lk_ne (by decide +kernel), lk_ne (by decide +kernel), lk_eq]
theorem put_Machine_frames {v_heads v_code_rows v_heap v_breaths v_frames v_number y : V} : putF ("frames" : Str) y (fs_Machine v_heads v_code_rows v_heap v_breaths v_frames v_number) = fs_Machine v_heads v_code_rows v_heap v_breaths y v_number := by unfold fs_Machine; rw [pu_ne (by decide +kernel), pu_ne (by decide +kernel), pu_ne (by decide +kernel), pu_ne (by decide +kernel), pu_eq]
theorem fg_Machine_frames {Z : Adr} (T : Top Z) {H : Hp} {p dx : Addr} {v_heads v_code_rows v_heap v_breaths v_frames v_number : V} {Q : VK} (h1 : H p = some (.ins Z.c_Machine dx (fs_Machine v_heads v_code_rows v_heap v_breaths v_frames v_number))) (q : Q v_frames H) : zFld Z.K (.ref p) ("frames" : Str) H Q := s_zFld h1 T.cl_Machine T.na_Machine_frames get_Machine_frames q
theorem fp_Machine_frames {Z : Adr} (T : Top Z) {H : Hp} {p dx : Addr} {v_heads v_code_rows v_heap v_breaths v_frames v_number y : V} {N1 : Hp → Prop} (h1 : H p = some (.ins Z.c_Machine dx (fs_Machine v_heads v_code_rows v_heap v_breaths v_frames v_number))) (h : ∀ H', But p H H' → H' p = some (.ins Z.c_Machine dx (fs_Machine v_heads v_code_rows v_heap v_breaths y v_number)) → N1 H') : zPutF Z.K (.ref p) ("frames" : Str) y H N1 := c_fld h1 T.cl_Machine T.na_Machine_frames (by show 6 < 1000; decide) put_Machine_frames h
theorem fn_Machine_frames {Z : Adr} (T : Top Z) {H : Hp} {p dx : Addr} {v_heads v_code_rows v_heap v_breaths y : V} {N1 : Hp → Prop} (h1 : H p = some (.ins Z.c_Machine dx (fi_Machine_4 v_heads v_code_rows v_heap v_breaths))) (h : ∀ H', But p H H' → H' p = some (.ins Z.c_Machine dx (fi_Machine_5 v_heads v_code_rows v_heap v_breaths y)) → N1 H') : zPutF Z.K (.ref p) ("frames" : Str) y H N1 := c_fld h1 T.cl_Machine T.na_Machine_frames (by show 4 < 1000; decide) (by unfold fi_Machine_4; rw [pu_ne (by decide +kernel), pu_ne (by decide +kernel), pu_ne (by decide +kernel), pu_ne (by decide +kernel), pu_nil]; rfl) h
theorem get_Machine_number {v_heads v_code_rows v_heap v_breaths v_frames v_number : V} : (fs_Machine v_heads v_code_rows v_heap v_breaths v_frames v_number).lookup ("number" : Str) = some v_number := by unfold fs_Machine; rw [lk_ne (by decide +kernel), lk_ne (by decide +kernel), lk_ne (by decide +kernel), lk_ne (by decide +kernel), lk_ne (by decide +kernel), lk_eq]
theorem put_Machine_number {v_heads v_code_rows v_heap v_breaths v_frames v_number y : V} : putF ("number" : Str) y (fs_Machine v_heads v_code_rows v_heap v_breaths v_frames v_number) = fs_Machine v_heads v_code_rows v_heap v_breaths v_frames y := by unfold fs_Machine; rw [pu_ne (by decide +kernel), pu_ne (by decide +kernel), pu_ne (by decide +kernel), pu_ne (by decide +kernel), pu_ne (by decide +kernel), pu_eq]
theorem fg_Machine_number {Z : Adr} (T : Top Z) {H : Hp} {p dx : Addr} {v_heads v_code_rows v_heap v_breaths v_frames v_number : V} {Q : VK} (h1 : H p = some (.ins Z.c_Machine dx (fs_Machine v_heads v_code_rows v_heap v_breaths v_frames v_number))) (q : Q v_number H) : zFld Z.K (.ref p) ("number" : Str) H Q := s_zFld h1 T.cl_Machine T.na_Machine_number get_Machine_number q
theorem fp_Machine_number {Z : Adr} (T : Top Z) {H : Hp} {p dx : Addr} {v_heads v_code_rows v_heap v_breaths v_frames v_number y : V} {N1 : Hp → Prop} (h1 : H p = some (.ins Z.c_Machine dx (fs_Machine v_heads v_code_rows v_heap v_breaths v_frames v_number))) (h : ∀ H', But p H H' → H' p = some (.ins Z.c_Machine dx (fs_Machine v_heads v_code_rows v_heap v_breaths v_frames y)) → N1 H') : zPutF Z.K (.ref p) ("number" : Str) y H N1 := c_fld h1 T.cl_Machine T.na_Machine_number (by show 6 < 1000; decide) put_Machine_number h
theorem fn_Machine_number {Z : Adr} (T : Top Z) {H : Hp} {p dx : Addr} {v_heads v_code_rows v_heap v_breaths v_frames y : V} {N1 : Hp → Prop} (h1 : H p = some (.ins Z.c_Machine dx (fi_Machine_5 v_heads v_code_rows v_heap v_breaths v_frames))) (h : ∀ H', But p H H' → H' p = some (.ins Z.c_Machine dx (fs_Machine v_heads v_code_rows v_heap v_breaths v_frames y)) → N1 H') : zPutF Z.K (.ref p) ("number" : Str) y H N1 := c_fld h1 T.cl_Machine T.na_Machine_number (by show 5 < 1000; decide) (by unfold fi_Machine_5; rw [pu_ne (by decide +kernel), pu_ne (by decide +kernel), pu_ne (by decide +kernel), pu_ne (by decide +kernel), pu_ne (by decide +kernel), pu_nil]; rfl) h
theorem nx_Machine_breathe {v_heads v_code_rows v_heap v_breaths v_frames v_number : V} : (fs_Machine v_heads v_code_rows v_heap v_breaths v_frames v_number).lookup ("breathe" : Str) = none := by unfold fs_Machine; rw [lk_ne (by decide +kernel), lk_ne (by decide +kernel), lk_ne (by decide +kernel), lk_ne (by decide +kernel), lk_ne (by decide +kernel), lk_ne (by decide +kernel)]; rfl
theorem ms_Machine_breathe {Z : Adr} {H : Hp} {p dx : Addr} {v_heads v_code_rows v_heap v_breaths v_frames v_number : V} {N1 : Prop} (h1 : H p = some (.ins Z.c_Machine dx (fs_Machine v_heads v_code_rows v_heap v_breaths v_frames v_number))) (h : N1) : zSelf Z.c_Machine ("breathe" : Str) (.ref p) H N1 := s_zself h1 nx_Machine_breathe h
theorem nx_Machine_begin {v_heads v_code_rows v_heap v_breaths v_frames v_number : V} : (fs_Machine v_heads v_code_rows v_heap v_breaths v_frames v_number).lookup ("begin" : Str) = none := by unfold fs_Machine; rw [lk_ne (by decide +kernel), lk_ne (by decide +kernel), lk_ne (by decide +kernel), lk_ne (by decide +kernel), lk_ne (by decide +kernel), lk_ne (by decide +kernel)]; rfl
theorem ms_Machine_begin {Z : Adr} {H : Hp} {p dx : Addr} {v_heads v_code_rows v_heap v_breaths v_frames v_number : V} {N1 : Prop} (h1 : H p = some (.ins Z.c_Machine dx (fs_Machine v_heads v_code_rows v_heap v_breaths v_frames v_number))) (h : N1) : zSelf Z.c_Machine ("begin" : Str) (.ref p) H N1 := s_zself h1 nx_Machine_begin h
theorem nx_Machine_call {v_heads v_code_rows v_heap v_breaths v_frames v_number : V} : (fs_Machine v_heads v_code_rows v_heap v_breaths v_frames v_number).lookup ("call" : Str) = none := by unfold fs_Machine; rw [lk_ne (by decide +kernel), lk_ne (by decide +kernel), lk_ne (by decide +kernel), lk_ne (by decide +kernel), lk_ne (by decide +kernel), lk_ne (by decide +kernel)]; rfl
theorem ms_Machine_call {Z : Adr} {H : Hp} {p dx : Addr} {v_heads v_code_rows v_heap v_breaths v_frames v_number : V} {N1 : Prop} (h1 : H p = some (.ins Z.c_Machine dx (fs_Machine v_heads v_code_rows v_heap v_breaths v_frames v_number))) (h : N1) : zSelf Z.c_Machine ("call" : Str) (.ref p) H N1 := s_zself h1 nx_Machine_call h
theorem nx_Machine_back {v_heads v_code_rows v_heap v_breaths v_frames v_number : V} : (fs_Machine v_heads v_code_rows v_heap v_breaths v_frames v_number).lookup ("back" : Str) = none := by unfold fs_Machine; rw [lk_ne (by decide +kernel), lk_ne (by decide +kernel), lk_ne (by decide +kernel), lk_ne (by decide +kernel), lk_ne (by decide +kernel), lk_ne (by decide +kernel)]; rfl
theorem ms_Machine_back {Z : Adr} {H : Hp} {p dx : Addr} {v_heads v_code_rows v_heap v_breaths v_frames v_number : V} {N1 : Prop} (h1 : H p = some (.ins Z.c_Machine dx (fs_Machine v_heads v_code_rows v_heap v_breaths v_frames v_number))) (h : N1) : zSelf Z.c_Machine ("back" : Str) (.ref p) H N1 := s_zself h1 nx_Machine_back h
theorem nx_Machine_fail {v_heads v_code_rows v_heap v_breaths v_frames v_number : V} : (fs_Machine v_heads v_code_rows v_heap v_breaths v_frames v_number).lookup ("fail" : Str) = none := by unfold fs_Machine; rw [lk_ne (by decide +kernel), lk_ne (by decide +kernel), lk_ne (by decide +kernel), lk_ne (by decide +kernel), lk_ne (by decide +kernel), lk_ne (by decide +kernel)]; rfl
theorem ms_Machine_fail {Z : Adr} {H : Hp} {p dx : Addr} {v_heads v_code_rows v_heap v_breaths v_frames v_number : V} {N1 : Prop} (h1 : H p = some (.ins Z.c_Machine dx (fs_Machine v_heads v_code_rows v_heap v_breaths v_frames v_number))) (h : N1) : zSelf Z.c_Machine ("fail" : Str) (.ref p) H N1 := s_zself h1 nx_Machine_fail h
theorem nx_Machine_deed {v_heads v_code_rows v_heap v_breaths v_frames v_number : V} : (fs_Machine v_heads v_code_rows v_heap v_breaths v_frames v_number).lookup ("deed" : Str) = none := by unfold fs_Machine; rw [lk_ne (by decide +kernel), lk_ne (by decide +kernel), lk_ne (by decide +kernel), lk_ne (by decide +kernel), lk_ne (by decide +kernel), lk_ne (by decide +kernel)]; rfl
theorem ms_Machine_deed {Z : Adr} {H : Hp} {p dx : Addr} {v_heads v_code_rows v_heap v_breaths v_frames v_number : V} {N1 : Prop} (h1 : H p = some (.ins Z.c_Machine dx (fs_Machine v_heads v_code_rows v_heap v_breaths v_frames v_number))) (h : N1) : zSelf Z.c_Machine ("deed" : Str) (.ref p) H N1 := s_zself h1 nx_Machine_deed h
theorem nx_Machine_boxed {v_heads v_code_rows v_heap v_breaths v_frames v_number : V} : (fs_Machine v_heads v_code_rows v_heap v_breaths v_frames v_number).lookup ("boxed" : Str) = none := by unfold fs_Machine; rw [lk_ne (by decide +kernel), lk_ne (by decide +kernel), lk_ne (by decide +kernel), lk_ne (by decide +kernel), lk_ne (by decide +kernel), lk_ne (by decide +kernel)]; rfl
theorem ms_Machine_boxed {Z : Adr} {H : Hp} {p dx : Addr} {v_heads v_code_rows v_heap v_breaths v_frames v_number : V} {N1 : Prop} (h1 : H p = some (.ins Z.c_Machine dx (fs_Machine v_heads v_code_rows v_heap v_breaths v_frames v_number))) (h : N1) : zSelf Z.c_Machine ("boxed" : Str) (.ref p) H N1 := s_zself h1 nx_Machine_boxed h
theorem nx_Machine_led {v_heads v_code_rows v_heap v_breaths v_frames v_number : V} : (fs_Machine v_heads v_code_rows v_heap v_breaths v_frames v_number).lookup ("led" : Str) = none := by unfold fs_Machine; rw [lk_ne (by decide +kernel), lk_ne (by decide +kernel), lk_ne (by decide +kernel), lk_ne (by decide +kernel), lk_ne (by decide +kernel), lk_ne (by decide +kernel)]; rfl
theorem ms_Machine_led {Z : Adr} {H : Hp} {p dx : Addr} {v_heads v_code_rows v_heap v_breaths v_frames v_number : V} {N1 : Prop} (h1 : H p = some (.ins Z.c_Machine dx (fs_Machine v_heads v_code_rows v_heap v_breaths v_frames v_number))) (h : N1) : zSelf Z.c_Machine ("led" : Str) (.ref p) H N1 := s_zself h1 nx_Machine_led h
theorem nx_Machine_plain_row {v_heads v_code_rows v_heap v_breaths v_frames v_number : V} : (fs_Machine v_heads v_code_rows v_heap v_breaths v_frames v_number).lookup ("plain_row" : Str) = none := by unfold fs_Machine; rw [lk_ne (by decide +kernel), lk_ne (by decide +kernel), lk_ne (by decide +kernel), lk_ne (by decide +kernel), lk_ne (by decide +kernel), lk_ne (by decide +kernel)]; rfl
theorem ms_Machine_plain_row {Z : Adr} {H : Hp} {p dx : Addr} {v_heads v_code_rows v_heap v_breaths v_frames v_number : V} {N1 : Prop} (h1 : H p = some (.ins Z.c_Machine dx (fs_Machine v_heads v_code_rows v_heap v_breaths v_frames v_number))) (h : N1) : zSelf Z.c_Machine ("plain_row" : Str) (.ref p) H N1 := s_zself h1 nx_Machine_plain_row h
theorem nx_Machine_step {v_heads v_code_rows v_heap v_breaths v_frames v_number : V} : (fs_Machine v_heads v_code_rows v_heap v_breaths v_frames v_number).lookup ("step" : Str) = none := by unfold fs_Machine; rw [lk_ne (by decide +kernel), lk_ne (by decide +kernel), lk_ne (by decide +kernel), lk_ne (by decide +kernel), lk_ne (by decide +kernel), lk_ne (by decide +kernel)]; rfl
theorem ms_Machine_step {Z : Adr} {H : Hp} {p dx : Addr} {v_heads v_code_rows v_heap v_breaths v_frames v_number : V} {N1 : Prop} (h1 : H p = some (.ins Z.c_Machine dx (fs_Machine v_heads v_code_rows v_heap v_breaths v_frames v_number))) (h : N1) : zSelf Z.c_Machine ("step" : Str) (.ref p) H N1 := s_zself h1 nx_Machine_step h
theorem nx_Machine_go_on {v_heads v_code_rows v_heap v_breaths v_frames v_number : V} : (fs_Machine v_heads v_code_rows v_heap v_breaths v_frames v_number).lookup ("go_on" : Str) = none := by unfold fs_Machine; rw [lk_ne (by decide +kernel), lk_ne (by decide +kernel), lk_ne (by decide +kernel), lk_ne (by decide +kernel), lk_ne (by decide +kernel), lk_ne (by decide +kernel)]; rfl
theorem ms_Machine_go_on {Z : Adr} {H : Hp} {p dx : Addr} {v_heads v_code_rows v_heap v_breaths v_frames v_number : V} {N1 : Prop} (h1 : H p = some (.ins Z.c_Machine dx (fs_Machine v_heads v_code_rows v_heap v_breaths v_frames v_number))) (h : N1) : zSelf Z.c_Machine ("go_on" : Str) (.ref p) H N1 := s_zself h1 nx_Machine_go_on h
/-! ### codes -/
def HeadOK (h : List Int) (i m : Nat) : Prop := ∃ s p b : Int, h = [s, p, b] ∧ 0 ≤ s ∧ s < m ∧ 0 ≤ p ∧ p ≤ (if 0 < i then 4 else 0) ∧ p ≤ b ∧ b ≤ 12
def OpOK (op n : Int) (fs rs : Nat) : Prop := op = 0 ∨ ((op = 1 ∨ op = 2) ∧ 0 ≤ n ∧ n < 12) ∨ ((op = 4 ∨ op = 5) ∧ 0 ≤ n ∧ n < rs) ∨ (op = 6 ∧ 0 ≤ n ∧ n < fs) ∨ ((op = 3 ∨ op = 7 ∨ op = 8 ∨ op = 9) ∧ n = 0) ∨ (op = 10 ∧ 8 ≤ n ∧ n ≤ 19) ∨ (op = 11 ∧ 2 ≤ n ∧ n ≤ 12)
def RowOK (r : List Int) (fs rs : Nat) : Prop := ∃ op n : Int, r = [op, n] ∧ OpOK op n fs rs
structure CodeOK (hs rs : List (List Int)) : Prop where
  h1 : 1 ≤ hs.length
  h16 : hs.length ≤ 16
  r1 : 1 ≤ rs.length
  hd : ∀ (i : Nat) (h : List Int), hs[i]? = some h → HeadOK h i rs.length
  rw : ∀ r ∈ rs, RowOK r hs.length rs.length
/-- cut up in lists of so many -/
def cutUp (n : Nat) (xs : List Int) : List (List Int) := (List.range (xs.length / n)).map fun k => (xs.drop (k * n)).take n
theorem cutUp_len (n : Nat) (xs : List Int) : (cutUp n xs).length = xs.length / n := by unfold cutUp; rw [List.length_map, List.length_range]
theorem cutUp_get {n : Nat} {xs : List Int} {i : Nat} {x : List Int} (h : (cutUp n xs)[i]? = some x) : i < xs.length / n ∧ x = (xs.drop (i * n)).take n := by
  unfold cutUp at h
  rw [List.getElem?_map] at h
  obtain ⟨k, h1, h2⟩ := Option.map_eq_some_iff.mp h
  have hi := (List.getElem?_eq_some_iff.mp h1)
  have := hi.2
  rw [List.getElem_range] at this
  subst this
  have := hi.1
  rw [List.length_range] at this
  exact ⟨this, h2.symm⟩
theorem cutUp_all {n : Nat} {xs : List Int} {x : List Int} (h : x ∈ cutUp n xs) : x.length = n := by
  obtain ⟨i, hi⟩ := List.mem_iff_getElem?.mp h
  obtain ⟨h1, rfl⟩ := cutUp_get hi
  rw [List.length_take, List.length_drop]
  have h2 := Nat.div_mul_le_self xs.length n
  have h3 : (i + 1) * n ≤ xs.length / n * n := Nat.mul_le_mul_right n (by omega)
  rw [Nat.add_mul] at h3
  omega
theorem cutUp_cons {n : Nat} (hn : 0 < n) {x xs : List Int} (hx : x.length = n) : cutUp n (x ++ xs) = x :: cutUp n xs := by
  unfold cutUp
  have e : (x ++ xs).length / n = xs.length / n + 1 := by rw [List.length_append, hx, Nat.add_comm, Nat.add_div_right _ hn]
  rw [e, List.range_succ_eq_map, List.map_cons, List.map_map]
  congr 1
  · rw [Nat.zero_mul, List.drop_zero, List.take_append_of_le_length (by omega), List.take_of_length_le (by omega)]
  · apply List.map_congr_left
    intro k _
    show ((x ++ xs).drop ((k + 1) * n)).take n = _
    rw [Nat.add_mul, Nat.one_mul, Nat.add_comm, ← List.drop_drop, ← hx, List.drop_left]
theorem cutUp_flatten {n : Nat} (hn : 0 < n) : ∀ {xss : List (List Int)}, (∀ x ∈ xss, x.length = n) → cutUp n xss.flatten = xss
  | [], _ => by unfold cutUp; simp
  | x :: xss, h => by
    rw [List.flatten_cons, cutUp_cons hn (h x List.mem_cons_self), cutUp_flatten hn fun y hy => h y (List.mem_cons_of_mem _ hy)]
theorem flat_sum {n : Nat} : ∀ {xss : List (List Int)}, (∀ x ∈ xss, x.length = n) → xss.flatten.length = n * xss.length
  | [], _ => rfl
  | x :: xss, h => by
    rw [List.flatten_cons, List.length_append, h x List.mem_cons_self, flat_sum fun y hy => h y (List.mem_cons_of_mem _ hy), List.length_cons, Nat.mul_add]
    omega
/-- the list of a code -/
def codeL (hs rs : List (List Int)) : List Int := (hs.length : Int) :: (hs.flatten ++ rs.flatten)
theorem HeadOK.len {h : List Int} {i m : Nat} (H : HeadOK h i m) : h.length = 3 := by obtain ⟨_, _, _, rfl, _⟩ := H; rfl
theorem RowOK.len {h : List Int} {i m : Nat} (H : RowOK h i m) : h.length = 2 := by obtain ⟨_, _, rfl, _⟩ := H; rfl
theorem CodeOK.h3 {hs rs : List (List Int)} (C : CodeOK hs rs) : ∀ x ∈ hs, x.length = 3 := fun x hx => by
  obtain ⟨i, hi⟩ := List.mem_iff_getElem?.mp hx
  exact (C.hd i x hi).len
theorem CodeOK.r2 {hs rs : List (List Int)} (C : CodeOK hs rs) : ∀ x ∈ rs, x.length = 2 := fun x hx => (C.rw x hx).len
theorem codeL_len {hs rs : List (List Int)} (C : CodeOK hs rs) : (codeL hs rs).length = 1 + 3 * hs.length + 2 * rs.length := by
  unfold codeL
  rw [List.length_cons, List.length_append, flat_sum C.h3, flat_sum C.r2]
  omega
/-- whether a list of numbers can be parted, and how -/
def cutH (xs : List Int) (m : Nat) : List (List Int) := cutUp 3 ((xs.drop 1).take (3 * m))
def cutR (xs : List Int) (m : Nat) : List (List Int) := cutUp 2 (xs.drop (3 * m + 1))
def PartOK (xs : List Int) (m : Nat) : Prop := xs[0]? = some (m : Int) ∧ 1 ≤ m ∧ m ≤ 16 ∧ 3 * m + 1 ≤ xs.length ∧ (xs.length - 3 * m) % 2 ≠ 0
def IsCode (xs : List Int) (hs rs : List (List Int)) : Prop := CodeOK hs rs ∧ xs = codeL hs rs
theorem IsCode.part {xs : List Int} {hs rs : List (List Int)} (C : IsCode xs hs rs) : PartOK xs hs.length ∧ cutH xs hs.length = hs ∧ cutR xs hs.length = rs := by
  obtain ⟨C, rfl⟩ := C
  have l := codeL_len C
  refine ⟨⟨rfl, C.h1, C.h16, by omega, by omega⟩, ?_, ?_⟩
  · unfold cutH codeL
    rw [List.drop_succ_cons, List.drop_zero, ← flat_sum C.h3, List.take_left]
    exact cutUp_flatten (by omega) C.h3
  · unfold cutR codeL
    rw [List.drop_succ_cons, ← flat_sum C.h3, List.drop_left]
    exact cutUp_flatten (by omega) C.r2
theorem cut_join {n : Nat} (hn : 0 < n) : ∀ (m : Nat) {xs : List Int}, xs.length = n * m → (cutUp n xs).flatten = xs
  | 0, xs, h => by
    have : xs = [] := List.eq_nil_of_length_eq_zero (by simpa using h)
    subst this
    unfold cutUp
    simp
  | m + 1, xs, h => by
    have hl : (xs.take n).length = n := by rw [List.length_take, h, Nat.mul_add]; omega
    have e : xs = xs.take n ++ xs.drop n := (List.take_append_drop n xs).symm
    rw [e, cutUp_cons hn hl, List.flatten_cons, cut_join hn m (by rw [List.length_drop, h, Nat.mul_add]; omega)]
theorem part_code {xs : List Int} {m : Nat} (P : PartOK xs m) (C : CodeOK (cutH xs m) (cutR xs m)) : IsCode xs (cutH xs m) (cutR xs m) := by
  obtain ⟨e0, m1, m2, l1, l2⟩ := P
  refine ⟨C, ?_⟩
  have lH : ((xs.drop 1).take (3 * m)).length = 3 * m := by rw [List.length_take, List.length_drop]; omega
  have lh : (cutH xs m).length = m := by unfold cutH; rw [cutUp_len, lH]; omega
  unfold codeL
  rw [lh]
  unfold cutH cutR
  rw [cut_join (by omega) m lH, cut_join (by omega) ((xs.length - 3 * m - 1) / 2) (by rw [List.length_drop]; omega)]
  obtain ⟨x, r, rfl⟩ : ∃ x r, xs = x :: r := by
    cases xs with
    | nil => simp at l1
    | cons x r => exact ⟨x, r, rfl⟩
  have ex : x = (m : Int) := by simpa using e0
  subst ex
  rw [List.drop_succ_cons, List.drop_zero, List.drop_succ_cons, List.take_append_drop]
theorem part_uniq {xs : List Int} {m m' : Nat} (P : PartOK xs m) (P' : PartOK xs m') : m = m' := by
  have := P.1.symm.trans P'.1
  injection this with this
  omega
theorem code_no {xs : List Int} {m : Nat} (P : PartOK xs m) (C : ¬ CodeOK (cutH xs m) (cutR xs m)) : ∀ hs rs, ¬ IsCode xs hs rs := fun hs rs I => by
  obtain ⟨P', e1, e2⟩ := I.part
  cases part_uniq P P'
  rw [e1, e2] at C
  exact C I.1

/-! ### codes and what is none -/
def isI : V → Bool
  | .int _ => true
  | _ => false
/-- what is no list and no tuple -/
def NoSq (H : Hp) (v : V) : Prop := (∃ i, v = .int i) ∨ (∃ b, v = .bl b) ∨ (∃ s, v = .str s) ∨ v = .non ∨ ∃ p kvs, v = .ref p ∧ H p = some (.dK kvs)
def El (K : PySem.W.Frag) (H : Hp) (v : V) : Prop := NoSq H v ∨ (∃ p xs, v = .ref p ∧ SqL K H p xs) ∨ ∃ p xs, v = .ref p ∧ SqT K H p xs
section
variable {K : PySem.W.Frag} {H H' : Hp} {v : V}
theorem NoSq.same (S : Same H H') (h : NoSq H v) : NoSq H' v := by
  rcases h with h | h | h | h | ⟨p, kvs, e, h⟩
  · exact .inl h
  · exact .inr (.inl h)
  · exact .inr (.inr (.inl h))
  · exact .inr (.inr (.inr (.inl h)))
  · exact .inr (.inr (.inr (.inr ⟨p, kvs, e, S _ _ h⟩)))
theorem El.same (S : Same H H') (h : El K H v) : El K H' v := by
  rcases h with h | ⟨p, xs, e, h⟩ | ⟨p, xs, e, h⟩
  · exact .inl (h.same S)
  · exact .inr (.inl ⟨p, xs, e, S.seq h⟩)
  · exact .inr (.inr ⟨p, xs, e, same_sqT S h⟩)
theorem El.int (i : Int) : El K H (.int i) := .inl (.inl ⟨i, rfl⟩)
/-- what isinstance says of it -/
theorem El.ty (h : El K H v) : ∃ (t : String) (b c : Bool), TyX K H v (.type t) ∧ kitB t "int" = some b ∧ kitB t "bool" = some c ∧ isI v = (b && !c) := by
  rcases h with (⟨i, rfl⟩ | ⟨b, rfl⟩ | ⟨s, rfl⟩ | rfl | ⟨p, kvs, rfl, h⟩) | ⟨p, xs, rfl, h⟩ | ⟨p, xs, rfl, h⟩
  · exact ⟨"int", true, false, .base (.int i), by decide +kernel, by decide +kernel, rfl⟩
  · exact ⟨"bool", true, true, .base (.bl b), by decide +kernel, by decide +kernel, rfl⟩
  · exact ⟨"str", false, false, .base (.str s), by decide +kernel, by decide +kernel, rfl⟩
  · exact ⟨"NoneType", false, false, .base .non, by decide +kernel, by decide +kernel, rfl⟩
  · exact ⟨"dict", false, false, .base (.dK h), by decide +kernel, by decide +kernel, rfl⟩
  · exact ⟨"list", false, false, tyx_l h, by decide +kernel, by decide +kernel, rfl⟩
  · exact ⟨"tuple", false, false, tyx_t h, by decide +kernel, by decide +kernel, rfl⟩
theorem El.ty2 (h : El K H v) : ∃ (t : String) (b c : Bool), TyX K H v (.type t) ∧ kitB t "list" = some b ∧ kitB t "tuple" = some c := by
  rcases h with (⟨i, rfl⟩ | ⟨b, rfl⟩ | ⟨s, rfl⟩ | rfl | ⟨p, kvs, rfl, h⟩) | ⟨p, xs, rfl, h⟩ | ⟨p, xs, rfl, h⟩
  · exact ⟨"int", false, false, .base (.int i), by decide +kernel, by decide +kernel⟩
  · exact ⟨"bool", false, false, .base (.bl b), by decide +kernel, by decide +kernel⟩
  · exact ⟨"str", false, false, .base (.str s), by decide +kernel, by decide +kernel⟩
  · exact ⟨"NoneType", false, false, .base .non, by decide +kernel, by decide +kernel⟩
  · exact ⟨"dict", false, false, .base (.dK h), by decide +kernel, by decide +kernel⟩
  · exact ⟨"list", true, false, tyx_l h, by decide +kernel, by decide +kernel⟩
  · exact ⟨"tuple", false, true, tyx_t h, by decide +kernel, by decide +kernel⟩
theorem NoSq.ty (h : NoSq H v) : ∃ t : String, TyX K H v (.type t) ∧ kitB t "list" = some false ∧ kitB t "tuple" = some false := by
  rcases h with ⟨i, rfl⟩ | ⟨b, rfl⟩ | ⟨s, rfl⟩ | rfl | ⟨p, kvs, rfl, h⟩
  · exact ⟨"int", .base (.int i), by decide +kernel, by decide +kernel⟩
  · exact ⟨"bool", .base (.bl b), by decide +kernel, by decide +kernel⟩
  · exact ⟨"str", .base (.str s), by decide +kernel, by decide +kernel⟩
  · exact ⟨"NoneType", .base .non, by decide +kernel, by decide +kernel⟩
  · exact ⟨"dict", .base (.dK h), by decide +kernel, by decide +kernel⟩
end
/-- a list or a tuple of anything -/
def SqE (K : PySem.W.Frag) (H : Hp) (vs : List V) (v : V) : Prop := ∃ p, v = .ref p ∧ (SqL K H p vs ∨ SqT K H p vs) ∧ ∀ x ∈ vs, El K H x
theorem SqE.same {K : PySem.W.Frag} {H H' : Hp} {vs : List V} {v : V} (S : Same H H') (h : SqE K H vs v) : SqE K H' vs v := by
  obtain ⟨p, e, h1, h2⟩ := h
  exact ⟨p, e, seqU_same S h1, fun x hx => (h2 x hx).same S⟩
theorem SqE.ints {K : PySem.W.Frag} {H : Hp} {xs : List Int} {v : V} (h : SeqI K H xs v) : SqE K H (xs.map V.int) v := by
  obtain ⟨p, e, h1⟩ := h
  refine ⟨p, e, h1, fun x hx => ?_⟩
  obtain ⟨i, _, rfl⟩ := List.mem_map.mp hx
  exact El.int i
theorem all_isI (xs : List Int) : (xs.map V.int).all isI = true := by
  rw [List.all_map]
  exact List.all_eq_true.mpr fun x _ => rfl
theorem isI_ints : ∀ {vs : List V}, vs.all isI = true → ∃ xs : List Int, vs = xs.map V.int
  | [], _ => ⟨[], rfl⟩
  | v :: vs, h => by
    rw [List.all_cons, Bool.and_eq_true] at h
    obtain ⟨xs, rfl⟩ := isI_ints h.2
    cases v with
    | int i => exact ⟨i :: xs, rfl⟩
    | _ => exact absurd h.1 (by simp [isI])
def q_is_whole (Z : Adr) (a : V) (H : Hp) (Q : VK) (E : XK) : Prop := El Z.K H a ∧ Q (.bl (isI a)) H
def q_are_wholes (Z : Adr) (a b : V) (H : Hp) (Q : VK) (E : XK) : Prop := ∃ m : Int, b = .int m ∧ ((NoSq H a ∧ ∀ H', Same H H' → Q (.bl false) H') ∨ ∃ vs, SqE Z.K H vs a ∧ vs.length ≤ 100000 ∧ ∀ H', Same H H' → Q (.bl (decide ((vs.length : Int) = m) && vs.all isI)) H')
theorem wholes_ints {Z : Adr} {a b : V} {H : Hp} {Q : VK} {E : XK} {xs : List Int} {m : Int} (h : SeqI Z.K H xs a) (hb : b = .int m) (hl : xs.length ≤ 100000) (q : ∀ H', Same H H' → Q (.bl (decide ((xs.length : Int) = m))) H') : q_are_wholes Z a b H Q E :=
  ⟨m, hb, .inr ⟨_, SqE.ints h, by rw [List.length_map]; exact hl, fun H' S => by rw [all_isI, Bool.and_true, List.length_map]; exact q H' S⟩⟩
def q_fits_op (Z : Adr) (a b c d : V) (H : Hp) (Q : VK) (E : XK) : Prop := ∃ (op n : Int) (fs rs : Nat), a = .int op ∧ b = .int n ∧ c = .int fs ∧ d = .int rs ∧ (OpOK op n fs rs → ∀ H', Same H H' → Q (.bl true) H') ∧ (¬ OpOK op n fs rs → ∀ H', Same H H' → Q (.bl false) H')
def q_fits_head (Z : Adr) (a b c : V) (H : Hp) (Q : VK) (E : XK) : Prop := ∃ (h : List Int) (i m : Nat), SeqI Z.K H h a ∧ h.length = 3 ∧ b = .int i ∧ c = .int m ∧ (HeadOK h i m → Q (.bl true) H) ∧ (¬ HeadOK h i m → Q (.bl false) H)
def ListI (K : PySem.W.Frag) (H : Hp) (xss : List (List Int)) (v : V) : Prop := ∃ l vs, v = .ref l ∧ (SqL K H l vs ∨ SqT K H l vs) ∧ Row (SeqI K H) xss vs
theorem ListI.same {K : PySem.W.Frag} {H H' : Hp} {x : List (List Int)} {v : V} (S : Same H H') (h : ListI K H x v) : ListI K H' x v := by
  obtain ⟨t, vs, rfl, e | e, r⟩ := h
  · exact ⟨t, vs, rfl, .inl (S.seq e), r.imp fun _ _ _ z => z.same S⟩
  · exact ⟨t, vs, rfl, .inr (same_sqT S e), r.imp fun _ _ _ z => z.same S⟩
def q_make_code (Z : Adr) (a b : V) (H : Hp) (Q : VK) (E : XK) : Prop := ∃ (hs rs : List (List Int)), ListI Z.K H hs a ∧ ListI Z.K H rs b ∧ (∀ h ∈ hs, h.length = 3) ∧ (∀ r ∈ rs, r.length = 2) ∧ hs.length ≤ 100000 ∧ rs.length ≤ 100000 ∧
  (CodeOK hs rs → ∀ H', Same H H' → Q (.bl true) H') ∧ (¬ CodeOK hs rs → ∀ H', Same H H' → Q (.bl false) H')
def q_cut_up (Z : Adr) (a b : V) (H : Hp) (Q : VK) (E : XK) : Prop := ∃ (l : Addr) (xs : List Int) (n : Nat), a = .ref l ∧ b = .int n ∧ 0 < n ∧ n ≤ 1000 ∧ xs.length ≤ 100000 ∧ SqL Z.K H l (xs.map V.int) ∧ ∀ l' vs H', Same H H' → H l' = none → H' l' = some (.lst vs) → TupsAt H' (cutUp n xs) vs → Q (.ref l') H'
/-- heads and rows of a code as they are told -/
def Told (H0 H : Hp) (xss : List (List Int)) (l : Addr) : Prop := H0 l = none ∧ ∃ vs, H l = some (.lst vs) ∧ TupsAt H xss vs
/-- no list of whole numbers -/
def Odd (K : PySem.W.Frag) (H : Hp) (a : V) : Prop := NoSq H a ∨ (∃ p vs, a = .ref p ∧ SqT K H p vs) ∨ ∃ p vs, a = .ref p ∧ SqL K H p vs ∧ (∀ x ∈ vs, El K H x) ∧ vs.length ≤ 100000 ∧ (vs = [] ∨ vs.all isI = false)
def NotC (K : PySem.W.Frag) (H : Hp) (a : V) : Prop := Odd K H a ∨ ∃ l xs, a = .ref l ∧ SqL K H l (xs.map V.int) ∧ xs.length ≤ 100000 ∧ ∀ hs rs, ¬ IsCode xs hs rs
theorem Odd.same {K : PySem.W.Frag} {H H' : Hp} {a : V} (S : Same H H') (h : Odd K H a) : Odd K H' a := by
  rcases h with h | ⟨p, vs, e, h⟩ | ⟨p, vs, e, h, h2, h3⟩
  · exact .inl (h.same S)
  · exact .inr (.inl ⟨p, vs, e, same_sqT S h⟩)
  · exact .inr (.inr ⟨p, vs, e, S.seq h, fun x hx => (h2 x hx).same S, h3⟩)
theorem NotC.same {K : PySem.W.Frag} {H H' : Hp} {a : V} (S : Same H H') (h : NotC K H a) : NotC K H' a := by
  rcases h with h | ⟨l, xs, e, h, h2⟩
  · exact .inl (h.same S)
  · exact .inr ⟨l, xs, e, S.seq h, h2⟩
def q_parted_code (Z : Adr) (a : V) (H : Hp) (Q : VK) (E : XK) : Prop := (∃ (l : Addr) (xs : List Int), a = .ref l ∧ SqL Z.K H l (xs.map V.int) ∧ xs.length ≤ 100000 ∧
  (∀ hs rs, IsCode xs hs rs → ∀ t lh lr H', Same H H' → H' t = some (.tup [.ref lh, .ref lr]) → lh ≠ lr → Told H H' hs lh → Told H H' rs lr → Q (.ref t) H') ∧
  ((∀ hs rs, ¬ IsCode xs hs rs) → ∀ H', Same H H' → E (.ref Z.c_NoCode) none H')) ∨ (Odd Z.K H a ∧ ∀ H', Same H H' → E (.ref Z.c_NoCode) none H')
def q_is_code (Z : Adr) (a : V) (H : Hp) (Q : VK) (E : XK) : Prop := (∃ (l : Addr) (xs : List Int), a = .ref l ∧ SqL Z.K H l (xs.map V.int) ∧ xs.length ≤ 100000 ∧ (∃ hs rs, IsCode xs hs rs) ∧ ∀ H', Same H H' → Q (.bl true) H') ∨ (NotC Z.K H a ∧ ∀ H', Same H H' → Q (.bl false) H')
def q_heads_of (Z : Adr) (a : V) (H : Hp) (Q : VK) (E : XK) : Prop := (∃ (l : Addr) (xs : List Int) (hs rs : List (List Int)), a = .ref l ∧ SqL Z.K H l (xs.map V.int) ∧ xs.length ≤ 100000 ∧ IsCode xs hs rs ∧ ∀ l H', Same H H' → Told H H' hs l → Q (.ref l) H') ∨ (NotC Z.K H a ∧ ∀ H', Same H H' → E (.ref Z.c_NoCode) none H')
def q_rows_of (Z : Adr) (a : V) (H : Hp) (Q : VK) (E : XK) : Prop := (∃ (l : Addr) (xs : List Int) (hs rs : List (List Int)), a = .ref l ∧ SqL Z.K H l (xs.map V.int) ∧ xs.length ≤ 100000 ∧ IsCode xs hs rs ∧ ∀ l H', Same H H' → Told H H' rs l → Q (.ref l) H') ∨ (NotC Z.K H a ∧ ∀ H', Same H H' → E (.ref Z.c_NoCode) none H')
/-- a row that may be anything -/
def AnyR (K : PySem.W.Frag) (H : Hp) (o : Option (List V)) (v : V) : Prop := match o with
  | none => NoSq H v
  | some vs => SqE K H vs v ∧ vs.length ≤ 1000
def goodR (n : Int) (o : Option (List V)) : Bool := match o with
  | none => false
  | some vs => decide ((vs.length : Int) = n) && vs.all isI
theorem AnyR.same {K : PySem.W.Frag} {H H' : Hp} {o : Option (List V)} {v : V} (S : Same H H') (h : AnyR K H o v) : AnyR K H' o v := by
  cases o with
  | none => exact NoSq.same S h
  | some vs => exact ⟨h.1.same S, h.2⟩
theorem AnyR.ints {K : PySem.W.Frag} {H : Hp} {xs : List Int} {v : V} (h : SeqI K H xs v) (hl : xs.length ≤ 1000) : AnyR K H (some (xs.map V.int)) v := ⟨SqE.ints h, by rw [List.length_map]; exact hl⟩
/-- a list of rows that may be anything, or no list -/
def AnyL (K : PySem.W.Frag) (H : Hp) (os : List (Option (List V))) (v : V) : Prop := ∃ l vs, v = .ref l ∧ (SqL K H l vs ∨ SqT K H l vs) ∧ Row (AnyR K H) os vs
def q_code_of (Z : Adr) (a b : V) (H : Hp) (Q : VK) (E : XK) : Prop := (∃ (hs rs : List (List Int)), ListI Z.K H hs a ∧ ListI Z.K H rs b ∧ CodeOK hs rs ∧ rs.length ≤ 30000 ∧ ∀ l H', Same H H' → H l = none → H' l = some (.lst ((codeL hs rs).map V.int)) → Q (.ref l) H') ∨
  ((((NoSq H a ∧ El Z.K H b) ∨ (El Z.K H a ∧ NoSq H b) ∨ (∃ os qs, AnyL Z.K H os a ∧ AnyL Z.K H qs b ∧ os.length ≤ 100000 ∧ qs.length ≤ 100000 ∧ (os.all (goodR 3) = false ∨ qs.all (goodR 2) = false))) ∨
    ∃ hs rs, ListI Z.K H hs a ∧ ListI Z.K H rs b ∧ (∀ h ∈ hs, h.length = 3) ∧ (∀ r ∈ rs, r.length = 2) ∧ hs.length ≤ 100000 ∧ rs.length ≤ 100000 ∧ ¬ CodeOK hs rs) ∧ ∀ H', Same H H' → E (.ref Z.c_NoCode) none H')

/-! ### deeds: what two numbers, a row, the rows come to -/
inductive Wo where
  | ok (v : Int)
  | flt (s : Str)
def Wo.vs : Wo → List V
  | .ok v => [.non, .int v]
  | .flt s => [.str s, .int 0]
def Fig (x : Int) : Prop := x.natAbs < 10 ^ 100
def sumW (k a b : Int) : Wo :=
  if (if k = 8 then a + b else if k = 9 then a - b else a * b).natAbs < 10 ^ 100 then .ok (if k = 8 then a + b else if k = 9 then a - b else a * b) else .flt "great"
def quoW (k a b : Int) : Wo := if b = 0 then .flt "zero" else if k = 11 then .ok (a.fdiv b) else .ok (a.fmod b)
def numW (k a b : Int) : Wo := if k = 8 ∨ k = 9 ∨ k = 10 then sumW k a b else if k = 11 ∨ k = 12 then quoW k a b else if k = 13 then .ok (if a < b then 1 else 0) else .ok (if a = b then 1 else 0)
def woD : Wo → PyData
  | .ok v => .tuple [.none, .int v]
  | .flt s => .tuple [.str s, .int 0]
theorem woD_dp {K : PySem.W.Frag} {H : Hp} {t : Addr} : ∀ {w : Wo}, H t = some (.tup w.vs) → Dp K H (.ref t) (woD w)
  | .ok _, h => .tup (SqT.of h) (.cons .non (.cons (.int _) .nil))
  | .flt _, h => .tup (SqT.of h) (.cons (.str _) (.cons (.int _) .nil))
def Wo.fine : Wo → Prop
  | .ok _ => True
  | .flt s => PyData.strOk s = true
theorem woD_sh : ∀ {w : Wo}, w.fine → Sh 1 (woD w)
  | .ok _, _ => Sh.tup fun d h => by
    rcases List.mem_cons.mp h with rfl | h
    · exact Sh.non
    · cases List.mem_singleton.mp h; exact Sh.int _
  | .flt _, hs => Sh.tup fun d h => by
    rcases List.mem_cons.mp h with rfl | h
    · exact Sh.str hs
    · cases List.mem_singleton.mp h; exact Sh.int _
theorem numW_fine (k a b : Int) : (numW k a b).fine := by
  unfold numW sumW quoW
  repeat' split
  all_goals first | trivial | (show PyData.strOk _ = true; decide +kernel)
theorem fig_log {x : Int} (h : Fig x) : x.natAbs.log2 < 400 := PySem.Flt.log2_lt_of (by decide) (Nat.lt_of_lt_of_le h (by decide +kernel))
theorem fig_mul {a b : Int} (ha : Fig a) (hb : Fig b) : CMulW a b := by
  have h1 := fig_log ha
  have h2 := fig_log hb
  unfold CMulW
  omega
theorem len_digits (z : Int) : ((Str.ofString (toString (if z < 0 then -z else z)) : Str).length : Int) ≤ 100 ↔ z.natAbs < 10 ^ 100 := by
  have e : (if z < 0 then -z else z) = ((z.natAbs : Nat) : Int) := by split <;> omega
  rw [e]
  have s := PySem.W.KIN.signs_num z.natAbs
  have l : (Str.ofString (toString ((z.natAbs : Nat) : Int)) : Str).length = (Nat.toDigits 10 z.natAbs).length := by
    have := congrArg List.length s
    rw [List.length_map] at this
    exact this
  rw [l]
  have := Nat.length_toDigits_le_iff (b := 10) (n := z.natAbs) (k := 100) (by decide) (by decide)
  omega
def q_summed (Z : Adr) (k x y : V) (H : Hp) (Q : VK) (E : XK) : Prop := ∃ i a b : Int, k = .int i ∧ x = .int a ∧ y = .int b ∧ Fig a ∧ Fig b ∧ ∀ t, H t = none → Q (.ref t) (upd H t (.tup (sumW i a b).vs))
def q_parted_by (Z : Adr) (k x y : V) (H : Hp) (Q : VK) (E : XK) : Prop := ∃ i a b : Int, k = .int i ∧ x = .int a ∧ y = .int b ∧ Fig a ∧ Fig b ∧ ∀ t, H t = none → Q (.ref t) (upd H t (.tup (quoW i a b).vs))
def q_of_numbers (Z : Adr) (k l : V) (H : Hp) (Q : VK) (E : XK) : Prop := ∃ (i a b : Int) (lv : Addr), k = .int i ∧ l = .ref lv ∧ H lv = some (.lst [.int a, .int b]) ∧ Fig a ∧ Fig b ∧
  ∀ t H', Same H H' → H t = none → H' t = some (.tup (numW i a b).vs) → Q (.ref t) H'
/-- what a row comes to by a kind from 15 to 18 -/
def rowW (k : Int) (vs row : List Int) : Wo × List Int :=
  if k = 18 then (.ok row.length, row)
  else if k = 15 then (.ok (vs.getD 1 0), row ++ [vs.getD 1 0])
  else if 0 ≤ vs.getD 1 0 ∧ vs.getD 1 0 < row.length then
    if k = 16 then (.ok (row.getD (vs.getD 1 0).toNat 0), row) else (.ok (vs.getD 2 0), row.set (vs.getD 1 0).toNat (vs.getD 2 0))
  else (.flt "place", row)
def rowsW (k : Int) (vs : List Int) (cs : List (List Int)) : Wo × List (List Int) :=
  if k = 19 then (.ok cs.length, cs ++ [[]])
  else if 0 ≤ vs.getD 0 0 ∧ vs.getD 0 0 < cs.length then
    ((rowW k vs (cs.getD (vs.getD 0 0).toNat [])).1, cs.set (vs.getD 0 0).toNat (rowW k vs (cs.getD (vs.getD 0 0).toNat [])).2)
  else (.flt "row", cs)
/-- rows as they lie -/
structure HeapAt (H : Hp) (lr : Addr) (as : List Addr) (cs : List (List Int)) : Prop where
  top : H lr = some (.lst (as.map V.ref))
  row : ∀ (i : Nat) (a : Addr), as[i]? = some a → ∃ c, cs[i]? = some c ∧ H a = some (.lst (c.map V.int))
  len : as.length = cs.length
  nd : as.Nodup
  ne : lr ∉ as
/-- all but some rows is as it was -/
def Fr (lr : Addr) (as : List Addr) (H H' : Hp) : Prop := ∀ b o, ((b ≠ lr ∧ b ∉ as) ∨ Fz o) → H b = some o → H' b = some o
theorem HeapAt.free {H : Hp} {lr q : Addr} {as : List Addr} {cs : List (List Int)} (h : HeapAt H lr as cs) (hq : H q = none) : q ≠ lr ∧ q ∉ as := by
  refine ⟨(ne_of_none h.top hq).symm, fun z => ?_⟩
  obtain ⟨j, hj⟩ := List.mem_iff_getElem?.mp z
  obtain ⟨c, _, e⟩ := h.row j q hj
  rw [hq] at e; cases e
theorem HeapAt.keep {H H' : Hp} {lr : Addr} {as : List Addr} {cs : List (List Int)} (h : HeapAt H lr as cs) (k : ∀ b xs, (b = lr ∨ b ∈ as) → H b = some (.lst xs) → H' b = some (.lst xs)) : HeapAt H' lr as cs :=
  ⟨k _ _ (.inl rfl) h.top, fun i a hi => by
    obtain ⟨c, e1, e2⟩ := h.row i a hi
    exact ⟨c, e1, k _ _ (.inr (List.mem_of_getElem? hi)) e2⟩, h.len, h.nd, h.ne⟩
theorem HeapAt.same {H H' : Hp} {lr : Addr} {as : List Addr} {cs : List (List Int)} (h : HeapAt H lr as cs) (S : Same H H') : HeapAt H' lr as cs := h.keep fun b _ _ e => S b _ e
theorem HeapAt.but {H H' : Hp} {p lr : Addr} {as : List Addr} {cs : List (List Int)} (h : HeapAt H lr as cs) (B : But p H H') (n1 : p ≠ lr) (n2 : p ∉ as) : HeapAt H' lr as cs :=
  h.keep fun b xs z e => B b (.lst xs) (Or.inl fun w => by
    subst w
    rcases z with z | z
    · exact n1 z
    · exact n2 z) e
/-- p is no row: something else stands there -/
theorem HeapAt.other {H : Hp} {p lr : Addr} {as : List Addr} {cs : List (List Int)} {o : HO} (h : HeapAt H lr as cs) (hp : H p = some o) (no : ∀ xs, o ≠ .lst xs) : p ≠ lr ∧ p ∉ as := by
  refine ⟨fun e => no _ (by rw [e, h.top] at hp; exact (Option.some.inj hp).symm), fun z => ?_⟩
  obtain ⟨j, hj⟩ := List.mem_iff_getElem?.mp z
  obtain ⟨c, _, e⟩ := h.row j p hj
  rw [hp] at e
  exact no _ (Option.some.inj e)
theorem HeapAt.fr {H H' : Hp} {lr lm : Addr} {as bs : List Addr} {cs : List (List Int)} (h : HeapAt H lr as cs) (F : Fr lm bs H H') (n1 : lr ≠ lm) (n2 : lr ∉ bs) (n3 : lm ∉ as) (n4 : ∀ a ∈ as, a ∉ bs) : HeapAt H' lr as cs :=
  h.keep fun b xs z e => F b _ (Or.inl (by
    rcases z with z | z
    · subst z; exact ⟨n1, n2⟩
    · exact ⟨fun w => n3 (w ▸ z), n4 b z⟩)) e
theorem HeapAt.push {H H' : Hp} {lr l : Addr} {as : List Addr} {cs : List (List Int)} {c : List Int} (h : HeapAt H lr as cs) (hl : H l = some (.lst (c.map V.int))) (n1 : l ≠ lr) (n2 : l ∉ as) (B : But lr H H') (e : H' lr = some (.lst (as.map V.ref ++ [V.ref l]))) :
    HeapAt H' lr (as ++ [l]) (cs ++ [c]) := by
  refine ⟨by rw [e, List.map_append]; rfl, fun j a hj => ?_, by rw [List.length_append, List.length_append, h.len]; rfl, ?_, ?_⟩
  · by_cases hjl : j < as.length
    · rw [List.getElem?_append_left hjl] at hj
      obtain ⟨c, e1, e2⟩ := h.row j a hj
      exact ⟨c, by rw [List.getElem?_append_left (by rw [← h.len]; exact hjl)]; exact e1, B _ _ (.inl fun z => h.ne (z ▸ List.mem_of_getElem? hj)) e2⟩
    · rw [List.getElem?_append_right (by omega)] at hj
      have hj0 : j - as.length = 0 := by
        have := (List.getElem?_eq_some_iff.mp hj).1
        simp only [List.length_singleton] at this
        omega
      rw [hj0] at hj
      cases hj
      exact ⟨c, by rw [List.getElem?_append_right (by rw [← h.len]; omega), ← h.len, hj0]; rfl, B _ _ (.inl n1) hl⟩
  · rw [List.nodup_append]
    exact ⟨h.nd, by simp, fun a ha b hb => by cases List.mem_singleton.mp hb; intro z; subst z; exact n2 ha⟩
  · intro z
    rcases List.mem_append.mp z with z | z
    · exact h.ne z
    · exact n1 (List.mem_singleton.mp z).symm
theorem heap_dp {K : PySem.W.Frag} {H : Hp} {lr : Addr} {as : List Addr} {cs : List (List Int)} (h : HeapAt H lr as cs) : Dp K H (.ref lr) (.list (cs.map fun c => .list (c.map .int))) := by
  refine .lst (SqL.of h.top) ?_
  have key : ∀ (as : List Addr) (cs : List (List Int)), as.length = cs.length → (∀ (i : Nat) (a : Addr), as[i]? = some a → ∃ c, cs[i]? = some c ∧ H a = some (.lst (c.map V.int))) → DpAll K H (as.map V.ref) (cs.map fun c => PyData.list (c.map .int)) := by
    intro as
    induction as with
    | nil => intro cs hl _; cases cs with
      | nil => exact .nil
      | cons => cases hl
    | cons a r ih =>
      intro cs hl hr
      cases cs with
      | nil => cases hl
      | cons c s =>
        obtain ⟨c', e, hc⟩ := hr 0 a rfl
        cases e
        exact .cons (.lst (SqL.of hc) (dp_ints c)) (ih s (by simpa using hl) fun i b hb => hr (i + 1) b hb)
  exact key as cs h.len h.row
theorem heap_sh (cs : List (List Int)) : Sh 2 (.list (cs.map fun c => .list (c.map .int))) := Sh.list fun d h => by
  obtain ⟨c, _, rfl⟩ := List.mem_map.mp h
  exact Sh.list (sh_ints c)
def Few (m n : Nat) (cs : List (List Int)) : Prop := cs.length ≤ m ∧ ∀ c ∈ cs, c.length ≤ n
theorem rowW_few {k : Int} {vs row : List Int} : (rowW k vs row).2.length ≤ row.length + 1 := by
  unfold rowW
  repeat' split
  all_goals simp
theorem rowsW_few {k : Int} {vs : List Int} {cs : List (List Int)} {m n : Nat} (h : Few m n cs) : Few (m + 1) (n + 1) (rowsW k vs cs).2 := by
  obtain ⟨h1, h2⟩ := h
  unfold rowsW
  split
  · refine ⟨by simp; exact h1, fun c hc => ?_⟩
    rcases List.mem_append.mp hc with z | z
    · have := h2 c z; omega
    · cases List.mem_singleton.mp z; exact Nat.zero_le _
  · split
    · refine ⟨by rw [List.length_set]; omega, fun c hc => ?_⟩
      rcases List.mem_or_eq_of_mem_set hc with z | z
      · have := h2 c z; omega
      · subst z
        have := rowW_few (k := k) (vs := vs) (row := cs.getD (vs.getD 0 0).toNat [])
        have : (cs.getD (vs.getD 0 0).toNat []).length ≤ n := by
          rw [List.getD_eq_getElem?_getD]
          cases e : cs[(vs.getD 0 0).toNat]? with
          | none => exact Nat.zero_le _
          | some c => exact h2 c (List.mem_of_getElem? e)
        omega
    · exact ⟨Nat.le_succ_of_le h1, fun c hc => Nat.le_succ_of_le (h2 c hc)⟩
theorem rowsW_len {k : Int} {vs : List Int} {cs : List (List Int)} : cs.length ≤ (rowsW k vs cs).2.length := by
  unfold rowsW
  repeat' split
  all_goals simp
theorem rowsW_fine (k : Int) (vs : List Int) (cs : List (List Int)) : (rowsW k vs cs).1.fine := by
  unfold rowsW rowW
  repeat' split
  all_goals first | trivial | (show PyData.strOk _ = true; decide +kernel)
def partsN (k : Int) : Nat := if k = 19 then 0 else if k = 18 then 1 else if k = 17 then 3 else 2
def q_of_row (Z : Adr) (k l r : V) (H : Hp) (Q : VK) (E : XK) : Prop := ∃ (i : Int) (lv a : Addr) (vs c : List Int), k = .int i ∧ l = .ref lv ∧ r = .ref a ∧ 15 ≤ i ∧ i ≤ 18 ∧ vs.length = partsN i ∧ lv ≠ a ∧
  H lv = some (.lst (vs.map V.int)) ∧ H a = some (.lst (c.map V.int)) ∧ c.length < 10000000 ∧
  ∀ t H', But a H H' → H' a = some (.lst ((rowW i vs c).2.map V.int)) → H t = none → H' t = some (.tup (rowW i vs c).1.vs) → Q (.ref t) H'
def q_worth (Z : Adr) (k l r : V) (H : Hp) (Q : VK) (E : XK) : Prop :=
  (∃ (i a b : Int) (lv : Addr), k = .int i ∧ l = .ref lv ∧ 8 ≤ i ∧ i ≤ 14 ∧ H lv = some (.lst [.int a, .int b]) ∧ Fig a ∧ Fig b ∧
    ∀ t H', Same H H' → H t = none → H' t = some (.tup (numW i a b).vs) → Q (.ref t) H') ∨
  ∃ (i : Int) (lv lr : Addr) (vs : List Int) (as : List Addr) (cs : List (List Int)), k = .int i ∧ l = .ref lv ∧ r = .ref lr ∧ 15 ≤ i ∧ i ≤ 19 ∧ vs.length = partsN i ∧ H lv = some (.lst (vs.map V.int)) ∧ HeapAt H lr as cs ∧ lv ∉ as ∧ lv ≠ lr ∧
    cs.length < 10000000 ∧ (∀ c ∈ cs, c.length < 10000000) ∧
    ∀ t as' H', Fr lr as H H' → HeapAt H' lr as' (rowsW i vs cs).2 → (∀ n ∈ as', n ∈ as ∨ H n = none) → H t = none → t ∉ as' → H' t = some (.tup (rowsW i vs cs).1.vs) → Q (.ref t) H'

def manyP (i : Int) : Int := if i = 19 then 0 else if i = 7 ∨ i = 18 then 1 else if i = 17 then 3 else 2
def q_parts_of (Z : Adr) (a : V) (H : Hp) (Q : VK) (E : XK) : Prop := ∃ i : Int, a = .int i ∧ ∀ H', Same H H' → Q (.int (manyP i)) H'

/-! ### deeds within bounds -/
def doW (k : Int) (vs : List Int) (cs : List (List Int)) : Wo × List (List Int) := if k ≤ 14 then (numW k (vs.getD 0 0) (vs.getD 1 0), cs) else rowsW k vs cs
theorem fig0 : Fig 0 := by show (0 : Int).natAbs < 10 ^ 100; exact Nat.lt_of_lt_of_le (by decide) (Nat.one_le_pow _ _ (by decide))
theorem fig_small {x : Int} (h : x.natAbs < 10 ^ 99) : Fig x := Nat.lt_of_lt_of_le h (Nat.pow_le_pow_right (by decide) (by decide))
theorem fig_getD {l : List Int} (h : ∀ x ∈ l, Fig x) (i : Nat) : Fig (l.getD i 0) := by
  rw [List.getD_eq_getElem?_getD]
  cases e : l[i]? with
  | none => exact fig0
  | some v => exact h v (List.mem_of_getElem? e)
theorem figB {b : Bool} : Fig (if b = true then 1 else 0) := by
  cases b
  · exact fig0
  · show (1 : Int).natAbs < 10 ^ 100; exact Nat.lt_of_lt_of_le (by decide) (Nat.pow_le_pow_right (n := 10) (i := 1) (by decide) (by decide))
theorem fig1 : Fig 1 := figB (b := true)
theorem fig_fdiv {a b : Int} (h : Fig a) : Fig (a.fdiv b) := Nat.lt_of_le_of_lt (Int.natAbs_fdiv_le_natAbs a b) h
theorem fig_fmod {a b : Int} (hb : b ≠ 0) (h : Fig b) : Fig (a.fmod b) := by
  unfold Fig at *
  rcases Int.lt_or_gt_of_ne hb with z | z
  · have h1 := Int.fmod_nonneg_of_pos (-a) (b := -b) (by omega)
    have h2 := Int.fmod_lt_of_pos (-a) (b := -b) (by omega)
    rw [Int.neg_fmod_neg] at h1 h2
    omega
  · have h1 := Int.fmod_nonneg_of_pos a z
    have h2 := Int.fmod_lt_of_pos a z
    omega
theorem numW_fig {k a b v : Int} (ha : Fig a) (hb : Fig b) (h : numW k a b = .ok v) : Fig v := by
  unfold numW sumW quoW at h
  repeat' split at h
  all_goals first
    | (cases h; assumption)
    | (cases h; exact fig_fdiv ha)
    | (cases h; exact fig_fmod (by assumption) hb)
    | (cases h; exact fig1)
    | (cases h; exact fig0)
    | cases h
theorem fig_nat {n : Nat} (h : n ≤ 100000000) : Fig (n : Int) := fig_small (Nat.lt_of_le_of_lt (by omega : (n : Int).natAbs ≤ 10 ^ 8) (Nat.pow_lt_pow_right (by decide) (by decide)))
theorem rowsW_fig {N : Nat} {k : Int} {vs : List Int} {cs : List (List Int)} (hN : N ≤ 10000000) (hF : Few N N cs) (hv : ∀ x ∈ vs, Fig x) (hc : ∀ c ∈ cs, ∀ x ∈ c, Fig x) :
    (∀ v, (rowsW k vs cs).1 = .ok v → Fig v) ∧ ∀ c ∈ (rowsW k vs cs).2, ∀ x ∈ c, Fig x := by
  have g : ∀ x ∈ cs.getD (vs.getD 0 0).toNat [], Fig x := fun x hx => by
    rw [List.getD_eq_getElem?_getD] at hx
    cases e : cs[(vs.getD 0 0).toNat]? with
    | none => rw [e] at hx; cases hx
    | some c => rw [e] at hx; exact hc c (List.mem_of_getElem? e) x hx
  have gl : (cs.getD (vs.getD 0 0).toNat []).length ≤ N := by
    rw [List.getD_eq_getElem?_getD]
    cases e : cs[(vs.getD 0 0).toNat]? with
    | none => exact Nat.zero_le _
    | some c => exact hF.2 c (List.mem_of_getElem? e)
  have r1 : (∀ v, (rowW k vs (cs.getD (vs.getD 0 0).toNat [])).1 = .ok v → Fig v) ∧ ∀ x ∈ (rowW k vs (cs.getD (vs.getD 0 0).toNat [])).2, Fig x := by
    generalize cs.getD (vs.getD 0 0).toNat [] = row at *
    unfold rowW
    repeat' split
    · exact ⟨fun v e => by cases e; exact fig_nat (by omega), g⟩
    · refine ⟨fun v e => by cases e; exact fig_getD hv 1, fun x hx => ?_⟩
      rcases List.mem_append.mp hx with z | z
      · exact g x z
      · rw [List.mem_singleton.mp z]; exact fig_getD hv 1
    · exact ⟨fun v e => by cases e; exact fig_getD g _, g⟩
    · refine ⟨fun v e => by cases e; exact fig_getD hv 2, fun x hx => ?_⟩
      rcases List.mem_or_eq_of_mem_set hx with z | z
      · exact g x z
      · rw [z]; exact fig_getD hv 2
    · exact ⟨fun v e => (by cases e), g⟩
  unfold rowsW
  repeat' split
  · refine ⟨fun v e => by cases e; exact fig_nat (by have := hF.1; omega), fun c h x hx => ?_⟩
    rcases List.mem_append.mp h with z | z
    · exact hc c z x hx
    · rw [List.mem_singleton.mp z] at hx; cases hx
  · refine ⟨r1.1, fun c h x hx => ?_⟩
    rcases List.mem_or_eq_of_mem_set h with z | z
    · exact hc c z x hx
    · rw [z] at hx; exact r1.2 x hx
  · exact ⟨fun v e => (by cases e), hc⟩
theorem doW_fig {N : Nat} {k : Int} {vs : List Int} {cs : List (List Int)} (hN : N ≤ 10000000) (hF : Few N N cs) (hv : ∀ x ∈ vs, Fig x) (hc : ∀ c ∈ cs, ∀ x ∈ c, Fig x) :
    (∀ v, (doW k vs cs).1 = .ok v → Fig v) ∧ (∀ c ∈ (doW k vs cs).2, ∀ x ∈ c, Fig x) ∧ Few (N + 1) (N + 1) (doW k vs cs).2 ∧ cs.length ≤ (doW k vs cs).2.length := by
  unfold doW
  split
  · exact ⟨fun v e => numW_fig (fig_getD hv 0) (fig_getD hv 1) e, hc, ⟨by have := hF.1; show cs.length ≤ N + 1; omega, fun c h => by have := hF.2 c h; omega⟩, Nat.le_refl _⟩
  · have := rowsW_fig (k := k) hN hF hv hc
    exact ⟨this.1, this.2, rowsW_few hF, rowsW_len⟩
theorem set_self {α : Type} {l : List α} {i : Nat} {x : α} (h : l[i]? = some x) : l.set i x = l := by
  apply List.ext_getElem?
  intro j
  by_cases c : i = j
  · subst c
    rw [List.getElem?_set_self (List.getElem?_eq_some_iff.mp h).1, h]
  · rw [List.getElem?_set_ne c]

/-! ### the machine, plainly -/
theorem many_parts {k : Int} (h : 8 ≤ k) : manyP k = (partsN k : Int) := by
  unfold manyP partsN
  repeat' split
  all_goals first | rfl | omega
structure Fm where
  at_ : Nat
  bx : List Int
  vs : List Int
inductive Sx where
  | on (hp : List (List Int)) (br : Int) (f : Fm) (fs : List Fm)
  | fin (w : Str) (n : Int) (hp : List (List Int))
def Fm.top (f : Fm) (k : Nat) : List Int := f.vs.drop (f.vs.length - k)
def Fm.less (f : Fm) (k : Nat) : Fm := { f with vs := f.vs.take (f.vs.length - k) }
def Fm.lay (f : Fm) (v : Int) : Fm := { f with vs := f.vs ++ [v] }
def Fm.go (f : Fm) (n : Nat) : Fm := { f with at_ := n }
abbrev stray (hp : List (List Int)) : Sx := .fin "stray" 0 hp
def breathM (hp : List (List Int)) (br : Int) (f : Fm) (fs : List Fm) : Sx := if br < 1 then .fin "breath" 0 hp else .on hp (br - 1) f fs
def callM (hs : List (List Int)) (hp : List (List Int)) (br : Int) (f : Fm) (fs : List Fm) (n : Int) : Sx :=
  let h := hs.getD n.toNat []
  let k := (h.getD 1 0).toNat
  if f.vs.length < k then stray hp
  else if fs.length + 1 = 16 then .fin "deep" 0 hp
  else breathM hp br ⟨(h.getD 0 0).toNat, f.top k ++ List.replicate (h.getD 2 0 - h.getD 1 0).toNat 0, []⟩ (f.less k :: fs)
def backM (hp : List (List Int)) (br : Int) (f : Fm) (fs : List Fm) : Sx :=
  if f.vs.length < 1 then stray hp else match fs with
  | [] => .fin "done" ((f.top 1).getD 0 0) hp
  | g :: gs => .on hp br (g.lay ((f.top 1).getD 0 0)) gs
def failM (hp : List (List Int)) (f : Fm) : Sx := if f.vs.length < 1 then stray hp else .fin "told" ((f.top 1).getD 0 0) hp
def deedM (hp : List (List Int)) (br : Int) (f : Fm) (fs : List Fm) (k : Int) : Sx :=
  if f.vs.length < partsN k then stray hp else match (doW k (f.top (partsN k)) hp).1 with
  | .ok v => .on (doW k (f.top (partsN k)) hp).2 br ((f.less (partsN k)).lay v) fs
  | .flt s => .fin s 0 (doW k (f.top (partsN k)) hp).2
def boxM (hp : List (List Int)) (br : Int) (f : Fm) (fs : List Fm) (op n : Int) : Sx :=
  if (f.bx.length : Int) ≤ n then stray hp
  else if op = 1 then .on hp br (f.lay (f.bx.getD n.toNat 0)) fs
  else if f.vs.length < 1 then stray hp
  else .on hp br { (f.less 1).lay ((f.top 1).getD 0 0) with bx := f.bx.set n.toNat ((f.top 1).getD 0 0) } fs
def ledM (hp : List (List Int)) (br : Int) (f : Fm) (fs : List Fm) (op n : Int) : Sx :=
  if f.vs.length < 1 then stray hp
  else .on hp br ((f.less 1).go (if op = 5 ∧ (f.top 1).getD 0 0 = 0 then n.toNat else if op = 11 then f.at_ + (if 0 ≤ (f.top 1).getD 0 0 ∧ (f.top 1).getD 0 0 < n then (f.top 1).getD 0 0 else n - 1).toNat else f.at_)) fs
def plainM (hp : List (List Int)) (br : Int) (f : Fm) (fs : List Fm) (op n : Int) : Sx :=
  if op = 0 then .on hp br (f.lay n) fs else if op = 4 then .on hp br (f.go n.toNat) fs else if op = 9 then breathM hp br f fs else .on hp br f fs
def opM (hs : List (List Int)) (hp : List (List Int)) (br : Int) (f : Fm) (fs : List Fm) (op n : Int) : Sx :=
  if op = 1 ∨ op = 2 then boxM hp br f fs op n
  else if op = 3 ∨ op = 5 ∨ op = 11 then ledM hp br f fs op n
  else if op = 6 then callM hs hp br f fs n
  else if op = 7 then backM hp br f fs
  else if op = 8 then failM hp f
  else if op = 10 then deedM hp br f fs n
  else plainM hp br f fs op n
def stepM (hs rs : List (List Int)) (hp : List (List Int)) (br : Int) (f : Fm) (fs : List Fm) : Sx :=
  opM hs hp br (f.go (f.at_ + 1)) fs ((rs.getD f.at_ []).getD 0 0) ((rs.getD f.at_ []).getD 1 0)
/-- rows, so many at most: the word, the number, the rows of numbers, and how many were done -/
def runM (hs rs : List (List Int)) : Nat → List (List Int) → Int → Fm → List Fm → Str × Int × List (List Int)
  | k, hp, br, f, fs => if rs.length ≤ f.at_ then ("stray", 0, hp) else match k with
    | 0 => ("rows", 0, hp)
    | k + 1 => match stepM hs rs hp br f fs with
      | .on hp br f fs => runM hs rs k hp br f fs
      | .fin w n hp => (w, n, hp)
def begM (hs : List (List Int)) : Fm := ⟨((hs.getD 0 []).getD 0 0).toNat, List.replicate ((hs.getD 0 []).getD 2 0).toNat 0, []⟩
def goM (hs rs : List (List Int)) (given : List Int) (br : Int) (most : Nat) : Str × Int × List (List Int) :=
  if br < 1 then ("breath", 0, [given, []]) else runM hs rs most [given, []] (br - 1) (begM hs) []
/-- what holds of a machine that has done some rows -/
structure FmOK (N : Nat) (f : Fm) : Prop where
  n : f.vs.length ≤ N
  b : f.bx.length ≤ 12
  fb : ∀ x ∈ f.bx, Fig x
  fv : ∀ x ∈ f.vs, Fig x
structure MOk (N : Nat) (hp : List (List Int)) (f : Fm) (fs : List Fm) : Prop where
  few : Few N N hp
  fig : ∀ c ∈ hp, ∀ x ∈ c, Fig x
  two : 2 ≤ hp.length
  fr : ∀ g ∈ f :: fs, FmOK N g
  dep : fs.length < 16
theorem FmOK.mono {N M : Nat} {f : Fm} (h : FmOK N f) (l : N ≤ M) : FmOK M f := ⟨by have := h.n; omega, h.b, h.fb, h.fv⟩
theorem MOk.mono {N M : Nat} {hp : List (List Int)} {f : Fm} {fs : List Fm} (h : MOk N hp f fs) (l : N ≤ M) : MOk M hp f fs := ⟨⟨by have := h.few.1; omega, fun c hc => by have := h.few.2 c hc; omega⟩, h.fig, h.two, fun g hg => (h.fr g hg).mono l, h.dep⟩
theorem top_mem {f : Fm} {k : Nat} {x : Int} (h : x ∈ f.top k) : x ∈ f.vs := List.mem_of_mem_drop h
theorem FmOK.less {N : Nat} {f : Fm} (h : FmOK N f) (k : Nat) : FmOK N (f.less k) := ⟨by show (f.vs.take _).length ≤ N; rw [List.length_take]; have := h.n; omega, h.b, h.fb, fun x hx => h.fv x (List.mem_of_mem_take hx)⟩
theorem FmOK.lay {N : Nat} {f : Fm} (h : FmOK N f) {v : Int} (hv : Fig v) : FmOK (N + 1) (f.lay v) := ⟨by show (f.vs ++ [v]).length ≤ N + 1; rw [List.length_append]; have := h.n; simp; omega, h.b, h.fb, fun x hx => by
  rcases List.mem_append.mp hx with z | z
  · exact h.fv x z
  · rw [List.mem_singleton.mp z]; exact hv⟩
theorem FmOK.go {N : Nat} {f : Fm} (h : FmOK N f) (n : Nat) : FmOK N (f.go n) := ⟨h.n, h.b, h.fb, h.fv⟩
/-- heads whose boxes are at most 12, rows whose numbers have at most 100 figures -/
structure CodeFig (hs rs : List (List Int)) : Prop where
  c : CodeOK hs rs
  f : ∀ r ∈ rs, Fig (r.getD 1 0)
theorem CodeOK.head {hs rs : List (List Int)} (C : CodeOK hs rs) {i : Nat} (h : i < hs.length) : ∃ s p b : Int, hs.getD i [] = [s, p, b] ∧ hs[i]? = some [s, p, b] ∧ 0 ≤ s ∧ s < rs.length ∧ 0 ≤ p ∧ p ≤ 4 ∧ p ≤ b ∧ b ≤ 12 ∧ (i = 0 → p = 0) := by
  obtain ⟨s, p, b, e, h1, h2, h3, h4, h5, h6⟩ := C.hd i _ (List.getElem?_eq_getElem h)
  refine ⟨s, p, b, by rw [List.getD_eq_getElem?_getD, List.getElem?_eq_getElem h, e]; rfl, by rw [List.getElem?_eq_getElem h, e], h1, h2, h3, ?_, h5, h6, fun z => ?_⟩
  · split at h4 <;> omega
  · subst z
    rw [if_neg (by omega)] at h4
    omega
theorem CodeOK.row {hs rs : List (List Int)} (C : CodeOK hs rs) {i : Nat} (h : i < rs.length) : ∃ op n : Int, rs.getD i [] = [op, n] ∧ rs[i]? = some [op, n] ∧ OpOK op n hs.length rs.length := by
  obtain ⟨op, n, e, ok⟩ := C.rw _ (List.getElem_mem h)
  exact ⟨op, n, by rw [List.getD_eq_getElem?_getD, List.getElem?_eq_getElem h, e]; rfl, by rw [List.getElem?_eq_getElem h, e], ok⟩
/-- a row done keeps what holds -/
theorem op_ok {hs rs : List (List Int)} (C : CodeOK hs rs) {N : Nat} (hN : N ≤ 10000000) {hp hp' : List (List Int)} {br br' : Int} {f f' : Fm} {fs fs' : List Fm} {op n : Int} (h : MOk N hp f fs) (ok : OpOK op n hs.length rs.length) (hn : op = 0 → Fig n)
    (e : opM hs hp br f fs op n = .on hp' br' f' fs') : MOk (N + 1) hp' f' fs' := by
  have M1 := h.mono (Nat.le_succ N)
  have hf := h.fr f List.mem_cons_self
  have sub : ∀ {g : Fm}, FmOK (N + 1) g → ∀ x ∈ g :: fs, FmOK (N + 1) x := fun hg x hx => by
    rcases List.mem_cons.mp hx with z | z
    · rw [z]; exact hg
    · exact M1.fr x (List.mem_cons_of_mem _ z)
  have mk : ∀ {g : Fm}, FmOK (N + 1) g → MOk (N + 1) hp g fs := fun hg => ⟨M1.few, M1.fig, M1.two, sub hg, M1.dep⟩
  have t0 : ∀ k j, Fig ((f.top k).getD j 0) := fun k j => fig_getD (fun x hx => hf.fv x (top_mem hx)) j
  have br1 : breathM hp br f fs = .on hp' br' f' fs' → MOk (N + 1) hp' f' fs' := fun e => by
    unfold breathM at e
    split at e
    · cases e
    · cases e; exact M1
  unfold opM at e
  split at e
  · unfold boxM at e
    repeat' split at e
    all_goals first | cases e | skip
    · exact mk (hf.lay (fig_getD hf.fb _))
    · have hl := (hf.less 1).lay (t0 1 0)
      refine mk ⟨hl.n, ?_, fun x hx => ?_, hl.fv⟩
      · show (f.bx.set _ _).length ≤ 12
        rw [List.length_set]; exact hf.b
      · rcases List.mem_or_eq_of_mem_set (show x ∈ f.bx.set _ _ from hx) with z | z
        · exact hf.fb x z
        · rw [z]; exact t0 1 0
  split at e
  · unfold ledM at e
    split at e
    · cases e
    · cases e
      exact mk (((hf.less 1).go _).mono (Nat.le_succ N))
  split at e
  · rename_i c6
    have hlt : n.toNat < hs.length := by unfold OpOK at ok; omega
    obtain ⟨s, p, b, e1, e2, _, _, p0, p4, pb, b12, _⟩ := C.head hlt
    unfold callM breathM at e
    simp only [e1] at e
    repeat' split at e
    all_goals first | cases e | skip
    rename_i c1 c2 c3
    have hd := h.dep
    refine ⟨M1.few, M1.fig, M1.two, fun x hx => ?_, by show fs.length + 1 < 16; omega⟩
    rcases List.mem_cons.mp hx with z | z
    · rw [z]
      refine ⟨Nat.zero_le _, ?_, fun y hy => ?_, fun y hy => by cases hy⟩
      · show (f.top p.toNat ++ List.replicate (b - p).toNat 0).length ≤ 12
        rw [List.length_append, List.length_replicate]
        unfold Fm.top
        rw [List.length_drop]
        simp only [List.getD_cons_succ, List.getD_cons_zero] at c1
        omega
      · rcases List.mem_append.mp (show y ∈ f.top p.toNat ++ List.replicate (b - p).toNat 0 from hy) with w | w
        · exact hf.fv y (top_mem w)
        · rw [List.eq_of_mem_replicate w]; exact fig0
    · rcases List.mem_cons.mp z with w | w
      · rw [w]; exact (hf.less _).mono (Nat.le_succ N)
      · exact M1.fr x (List.mem_cons_of_mem _ w)
  split at e
  · unfold backM at e
    split at e
    · cases e
    · cases fs with
      | nil => cases e
      | cons g gs =>
        cases e
        have hg := h.fr g (List.mem_cons_of_mem _ List.mem_cons_self)
        refine ⟨M1.few, M1.fig, M1.two, fun x hx => ?_, by have := h.dep; simp at this; omega⟩
        rcases List.mem_cons.mp hx with z | z
        · rw [z]; exact hg.lay (t0 1 0)
        · exact M1.fr x (List.mem_cons_of_mem _ (List.mem_cons_of_mem _ z))
  split at e
  · unfold failM at e
    split at e <;> cases e
  split at e
  · unfold deedM at e
    have w := doW_fig (k := n) (vs := f.top (partsN n)) hN h.few (fun x hx => hf.fv x (top_mem hx)) h.fig
    split at e
    · cases e
    · split at e
      · rename_i v ev
        cases e
        refine ⟨w.2.2.1, w.2.1, Nat.le_trans h.two w.2.2.2, sub ((hf.less _).lay (w.1 _ ev)), M1.dep⟩
      · cases e
  · unfold plainM at e
    split at e
    · cases e; exact mk (hf.lay (hn (by assumption)))
    split at e
    · cases e; exact mk ((hf.go _).mono (Nat.le_succ N))
    split at e
    · exact br1 e
    · cases e; exact M1
theorem step_ok {hs rs : List (List Int)} (C : CodeFig hs rs) {N : Nat} (hN : N ≤ 10000000) {hp hp' : List (List Int)} {br br' : Int} {f f' : Fm} {fs fs' : List Fm} (h : MOk N hp f fs) (hl : f.at_ < rs.length) (e : stepM hs rs hp br f fs = .on hp' br' f' fs') : MOk (N + 1) hp' f' fs' := by
  obtain ⟨op, n, e1, e2, ok⟩ := C.c.row hl
  have hg : MOk N hp (f.go (f.at_ + 1)) fs := ⟨h.few, h.fig, h.two, fun x hx => by
    rcases List.mem_cons.mp hx with z | z
    · rw [z]; exact (h.fr f List.mem_cons_self).go _
    · exact h.fr x (List.mem_cons_of_mem _ z), h.dep⟩
  unfold stepM at e
  rw [e1] at e
  refine op_ok C.c hN hg ok (fun _ => ?_) e
  have := C.f _ (List.mem_of_getElem? e2)
  exact this
def Sx.hp : Sx → List (List Int)
  | .on c _ _ _ => c
  | .fin _ _ c => c
section
variable {hs rs hp : List (List Int)} {k : Nat} {br : Int} {f : Fm} {fs : List Fm}
theorem runM_stray (h : rs.length ≤ f.at_) : runM hs rs k hp br f fs = (("stray" : Str), (0 : Int), hp) := by
  cases k <;> (unfold runM; rw [if_pos h])
theorem runM_rows (h : ¬ rs.length ≤ f.at_) : runM hs rs 0 hp br f fs = (("rows" : Str), (0 : Int), hp) := by
  unfold runM; rw [if_neg h]
theorem runM_on {hp' : List (List Int)} {br' : Int} {f' : Fm} {fs' : List Fm} (h : ¬ rs.length ≤ f.at_) (e : stepM hs rs hp br f fs = .on hp' br' f' fs') : runM hs rs (k + 1) hp br f fs = runM hs rs k hp' br' f' fs' := by
  conv => lhs; unfold runM
  rw [if_neg h, e]
theorem runM_fin {w : Str} {n : Int} {hp' : List (List Int)} (h : ¬ rs.length ≤ f.at_) (e : stepM hs rs hp br f fs = .fin w n hp') : runM hs rs (k + 1) hp br f fs = (w, n, hp') := by
  conv => lhs; unfold runM
  rw [if_neg h, e]
theorem doW_len {n : Int} {vs : List Int} {cs : List (List Int)} : cs.length ≤ (doW n vs cs).2.length := by
  unfold doW
  split
  · exact Nat.le_refl _
  · exact rowsW_len
theorem op_len {op n : Int} : hp.length ≤ (opM hs hp br f fs op n).hp.length := by
  unfold opM
  split
  · unfold boxM; repeat' split
    all_goals exact Nat.le_refl _
  split
  · unfold ledM; repeat' split
    all_goals exact Nat.le_refl _
  split
  · unfold callM breathM; simp only []; repeat' split
    all_goals exact Nat.le_refl _
  split
  · unfold backM; repeat' split
    all_goals exact Nat.le_refl _
  split
  · unfold failM; repeat' split
    all_goals exact Nat.le_refl _
  split
  · unfold deedM; repeat' split
    · exact Nat.le_refl _
    · exact doW_len
    · exact doW_len
  · unfold plainM breathM; repeat' split
    all_goals exact Nat.le_refl _
theorem run_len : ∀ {k : Nat} {hp : List (List Int)} {br : Int} {f : Fm} {fs : List Fm}, hp.length ≤ (runM hs rs k hp br f fs).2.2.length
  | 0, hp, br, f, fs => by
    by_cases c : rs.length ≤ f.at_
    · rw [runM_stray c]; exact Nat.le_refl _
    · rw [runM_rows c]; exact Nat.le_refl _
  | k + 1, hp, br, f, fs => by
    by_cases c : rs.length ≤ f.at_
    · rw [runM_stray c]; exact Nat.le_refl _
    · have h1 : hp.length ≤ (stepM hs rs hp br f fs).hp.length := op_len
      cases e : stepM hs rs hp br f fs with
      | on hp2 br2 f2 fs2 =>
        rw [runM_on c e]
        rw [e] at h1
        exact Nat.le_trans h1 run_len
      | fin w n hp2 =>
        rw [runM_fin c e]
        rw [e] at h1
        exact h1
/-- without deeds the rows of numbers stay -/
theorem op_hp {op n : Int} (h : op ≠ 10) : (opM hs hp br f fs op n).hp = hp := by
  unfold opM
  split
  · unfold boxM; repeat' split
    all_goals rfl
  split
  · unfold ledM; repeat' split
    all_goals rfl
  split
  · unfold callM breathM; simp only []; repeat' split
    all_goals rfl
  split
  · unfold backM; repeat' split
    all_goals rfl
  split
  · unfold failM; repeat' split
    all_goals rfl
  · unfold plainM breathM; repeat' split
    all_goals rfl
theorem run_hp (h : ∀ i, (rs.getD i []).getD 0 0 ≠ 10) : ∀ {k : Nat} {hp : List (List Int)} {br : Int} {f : Fm} {fs : List Fm}, (runM hs rs k hp br f fs).2.2 = hp
  | 0, hp, br, f, fs => by
    by_cases c : rs.length ≤ f.at_
    · rw [runM_stray c]
    · rw [runM_rows c]
  | k + 1, hp, br, f, fs => by
    by_cases c : rs.length ≤ f.at_
    · rw [runM_stray c]
    · have h1 : (stepM hs rs hp br f fs).hp = hp := op_hp (h f.at_)
      cases e : stepM hs rs hp br f fs with
      | on hp2 br2 f2 fs2 =>
        rw [runM_on c e, run_hp h]
        rw [e] at h1
        exact h1
      | fin w n hp2 =>
        rw [runM_fin c e]
        rw [e] at h1
        exact h1
theorem go_len {given : List Int} : 2 ≤ (goM hs rs given br k).2.2.length := by
  unfold goM
  split
  · exact Nat.le_refl _
  · exact Nat.le_trans (show 2 ≤ [given, []].length from Nat.le_refl 2) run_len
end
/-! ### steps one behind another -/
structure Ss where
  hp : List (List Int)
  br : Int
  f : Fm
  fs : List Fm
def Stp (hs rs : List (List Int)) : Nat → Ss → Ss → Prop
  | 0, s, s' => s = s'
  | k + 1, s, s' => ¬ rs.length ≤ s.f.at_ ∧ ∃ s1 : Ss, stepM hs rs s.hp s.br s.f s.fs = .on s1.hp s1.br s1.f s1.fs ∧ Stp hs rs k s1 s'
def Ss.run (hs rs : List (List Int)) (k : Nat) (s : Ss) : Str × Int × List (List Int) := runM hs rs k s.hp s.br s.f s.fs
section
variable {hs rs : List (List Int)}
theorem Stp.snoc : ∀ {k : Nat} {s s' s2 : Ss}, Stp hs rs k s s' → ¬ rs.length ≤ s'.f.at_ → stepM hs rs s'.hp s'.br s'.f s'.fs = .on s2.hp s2.br s2.f s2.fs → Stp hs rs (k + 1) s s2
  | 0, _, _, s2, h, h1, h2 => by cases h; exact ⟨h1, s2, h2, rfl⟩
  | _ + 1, _, _, _, ⟨a, s1, b, c⟩, h1, h2 => ⟨a, s1, b, c.snoc h1 h2⟩
theorem Stp.trans : ∀ {k j : Nat} {s s' s2 : Ss}, Stp hs rs k s s' → Stp hs rs j s' s2 → Stp hs rs (k + j) s s2
  | 0, j, _, _, _, h, g => by cases h; rw [Nat.zero_add]; exact g
  | k + 1, j, _, _, _, ⟨a, s1, b, c⟩, g => by rw [Nat.add_right_comm]; exact ⟨a, s1, b, c.trans g⟩
theorem Stp.run : ∀ {k : Nat} (j : Nat) {s s' : Ss}, Stp hs rs k s s' → s.run hs rs (k + j) = s'.run hs rs j
  | 0, j, _, _, h => by cases h; rw [Nat.zero_add]
  | k + 1, j, s, s', ⟨a, s1, b, c⟩ => by
    rw [Nat.add_right_comm]
    show runM hs rs (k + j + 1) s.hp s.br s.f s.fs = _
    rw [runM_on a b]
    exact c.run j
theorem Stp.rows : ∀ {k m : Nat} {s s' : Ss}, Stp hs rs k s s' → m < k → (s.run hs rs m).1 = ("rows" : Str) ∧ (s.run hs rs m).2.1 = 0
  | 0, _, _, _, _, h => absurd h (Nat.not_lt_zero _)
  | k + 1, 0, s, _, ⟨a, _, _, _⟩, _ => by
    show (runM hs rs 0 s.hp s.br s.f s.fs).1 = _ ∧ (runM hs rs 0 s.hp s.br s.f s.fs).2.1 = 0
    rw [runM_rows a]; exact ⟨rfl, rfl⟩
  | k + 1, m + 1, s, _, ⟨a, s1, b, c⟩, h => by
    show (runM hs rs (m + 1) s.hp s.br s.f s.fs).1 = _ ∧ (runM hs rs (m + 1) s.hp s.br s.f s.fs).2.1 = 0
    rw [runM_on a b]
    exact c.rows (by omega)
/-- that a run comes to an end when so many rows are done -/
def EndsAt (hs rs : List (List Int)) (s : Ss) (g : Nat) (r : Str × Int × List (List Int)) : Prop := (∀ k, g ≤ k → s.run hs rs k = r) ∧ ∀ k, k < g → (s.run hs rs k).1 = ("rows" : Str) ∧ (s.run hs rs k).2.1 = 0
theorem Stp.stray {k : Nat} {s s' : Ss} (h : Stp hs rs k s s') (e : rs.length ≤ s'.f.at_) : EndsAt hs rs s k (("stray" : Str), 0, s'.hp) :=
  ⟨fun m hm => by
    obtain ⟨j, rfl⟩ : ∃ j, m = k + j := ⟨m - k, by omega⟩
    rw [h.run j]
    exact runM_stray e, fun m hm => h.rows hm⟩
theorem Stp.fin {k : Nat} {s s' : Ss} {w : Str} {n : Int} {hp : List (List Int)} (h : Stp hs rs k s s') (h1 : ¬ rs.length ≤ s'.f.at_) (e : stepM hs rs s'.hp s'.br s'.f s'.fs = .fin w n hp) : EndsAt hs rs s (k + 1) (w, n, hp) :=
  ⟨fun m hm => by
    obtain ⟨j, rfl⟩ : ∃ j, m = k + (j + 1) := ⟨m - k - 1, by omega⟩
    rw [h.run (j + 1)]
    exact runM_fin h1 e, fun m hm => by
    by_cases c : m < k
    · exact h.rows c
    · obtain rfl : m = k := by omega
      have := h.run 0
      rw [Nat.add_zero] at this
      rw [this]
      show (runM hs rs 0 s'.hp s'.br s'.f s'.fs).1 = _ ∧ (runM hs rs 0 s'.hp s'.br s'.f s'.fs).2.1 = 0
      rw [runM_rows h1]; exact ⟨rfl, rfl⟩⟩
def begS (hs : List (List Int)) (given : List Int) (br : Int) : Ss := ⟨[given, []], br - 1, begM hs, []⟩
theorem goM_run {given : List Int} {br : Int} {k : Nat} (h : 1 ≤ br) : goM hs rs given br k = (begS hs given br).run hs rs k := by
  unfold goM
  rw [if_neg (by omega)]
  rfl
end
/-! ### more rows, more breaths -/
def Sx.up : Sx → Sx
  | .on hp br f fs => .on hp (br + 1) f fs
  | .fin w n hp => .fin w n hp
def Sx.ok : Sx → Prop
  | .on _ _ _ _ => True
  | .fin w n _ => w ≠ ("rows" : Str) ∧ (w = ("breath" : Str) → n = 0) ∧ PyData.strOk w = true
section
variable {hs rs hp : List (List Int)} {br : Int} {f : Fm} {fs : List Fm} {op n : Int}
theorem op_up : (∃ hp', opM hs hp br f fs op n = .fin "breath" 0 hp') ∨ opM hs hp (br + 1) f fs op n = (opM hs hp br f fs op n).up := by
  have b : ∀ (f : Fm) (fs : List Fm), (∃ hp', breathM hp br f fs = .fin "breath" 0 hp') ∨ breathM hp (br + 1) f fs = (breathM hp br f fs).up := fun f fs => by
    unfold breathM
    by_cases c : br < 1
    · rw [if_pos c]; exact .inl ⟨_, rfl⟩
    · rw [if_neg c, if_neg (by omega)]
      right
      show Sx.on hp (br + 1 - 1) f fs = .on hp (br - 1 + 1) f fs
      congr 1
      omega
  unfold opM
  split
  · unfold boxM; repeat' split
    all_goals exact .inr rfl
  split
  · unfold ledM; repeat' split
    all_goals exact .inr rfl
  split
  · unfold callM; simp only []; repeat' split
    · exact .inr rfl
    · exact .inr rfl
    · exact b _ _
  split
  · unfold backM; repeat' split
    all_goals exact .inr rfl
  split
  · unfold failM; repeat' split
    all_goals exact .inr rfl
  split
  · unfold deedM; repeat' split
    all_goals exact .inr rfl
  · unfold plainM; repeat' split
    · exact .inr rfl
    · exact .inr rfl
    · exact b _ _
    · exact .inr rfl
theorem doW_word {k : Int} {vs : List Int} {cs : List (List Int)} {s : Str} (h : (doW k vs cs).1 = .flt s) : s ≠ ("rows" : Str) ∧ s ≠ ("breath" : Str) ∧ PyData.strOk s = true := by
  unfold doW at h
  split at h
  · replace h : numW k (vs.getD 0 0) (vs.getD 1 0) = .flt s := h
    unfold numW sumW quoW at h
    repeat' split at h
    all_goals first
      | (cases h; exact ⟨by decide +kernel, by decide +kernel, by decide +kernel⟩)
      | cases h
  · unfold rowsW rowW at h
    repeat' split at h
    all_goals first
      | (cases h; exact ⟨by decide +kernel, by decide +kernel, by decide +kernel⟩)
      | cases h
theorem op_word : (opM hs hp br f fs op n).ok := by
  have st : ∀ hp, (stray hp).ok := fun hp => ⟨by decide +kernel, fun _ => rfl, by decide +kernel⟩
  have b : ∀ (f : Fm) (fs : List Fm), (breathM hp br f fs).ok := fun f fs => by
    unfold breathM
    split
    · exact ⟨by decide +kernel, fun _ => rfl, by decide +kernel⟩
    · trivial
  unfold opM
  split
  · unfold boxM; repeat' split
    all_goals first | exact st _ | trivial
  split
  · unfold ledM; repeat' split
    all_goals first | exact st _ | trivial
  split
  · unfold callM; simp only []; repeat' split
    · exact st _
    · exact ⟨by decide +kernel, fun _ => rfl, by decide +kernel⟩
    · exact b _ _
  split
  · unfold backM; repeat' split
    · exact st _
    · exact ⟨by decide +kernel, fun h => absurd h (by decide +kernel), by decide +kernel⟩
    · trivial
  split
  · unfold failM; repeat' split
    · exact st _
    · exact ⟨by decide +kernel, fun h => absurd h (by decide +kernel), by decide +kernel⟩
  split
  · unfold deedM
    split
    · exact st _
    · split
      · trivial
      · rename_i e
        have w := doW_word e
        exact ⟨w.1, fun _ => rfl, w.2.2⟩
  · unfold plainM; repeat' split
    · trivial
    · trivial
    · exact b _ _
    · trivial
theorem run_word : ∀ {k : Nat} {hp : List (List Int)} {br : Int} {f : Fm} {fs : List Fm}, ((runM hs rs k hp br f fs).1 = ("rows" : Str) ∨ (runM hs rs k hp br f fs).1 = ("breath" : Str) → (runM hs rs k hp br f fs).2.1 = 0) ∧ PyData.strOk (runM hs rs k hp br f fs).1 = true
  | 0, hp, br, f, fs => by
    by_cases c : rs.length ≤ f.at_
    · rw [runM_stray c]; exact ⟨fun _ => rfl, show PyData.strOk ("stray" : Str) = true by decide +kernel⟩
    · rw [runM_rows c]; exact ⟨fun _ => rfl, show PyData.strOk ("rows" : Str) = true by decide +kernel⟩
  | k + 1, hp, br, f, fs => by
    by_cases c : rs.length ≤ f.at_
    · rw [runM_stray c]; exact ⟨fun _ => rfl, show PyData.strOk ("stray" : Str) = true by decide +kernel⟩
    · have h1 : (stepM hs rs hp br f fs).ok := op_word
      cases e : stepM hs rs hp br f fs with
      | on hp2 br2 f2 fs2 => rw [runM_on c e]; exact run_word
      | fin w n hp2 =>
        rw [runM_fin c e]
        rw [e] at h1
        exact ⟨fun z => z.elim (fun z => absurd z h1.1) h1.2.1, h1.2.2⟩
/-- with more rows at most it is the same, where it isn't rows -/
theorem run_more : ∀ {k : Nat} (j : Nat) {hp : List (List Int)} {br : Int} {f : Fm} {fs : List Fm}, (runM hs rs k hp br f fs).1 ≠ ("rows" : Str) → runM hs rs (k + j) hp br f fs = runM hs rs k hp br f fs
  | 0, j, hp, br, f, fs, h => by
    by_cases c : rs.length ≤ f.at_
    · rw [runM_stray c, runM_stray c]
    · rw [runM_rows c] at h; exact absurd rfl h
  | k + 1, j, hp, br, f, fs, h => by
    by_cases c : rs.length ≤ f.at_
    · rw [runM_stray c, runM_stray c]
    · rw [Nat.add_right_comm]
      cases e : stepM hs rs hp br f fs with
      | on hp2 br2 f2 fs2 =>
        rw [runM_on c e] at h
        rw [runM_on c e, runM_on c e, run_more j h]
      | fin w n hp2 => rw [runM_fin c e, runM_fin c e]
/-- with a breath more it is the same, where it isn't breath -/
theorem run_breath : ∀ {k : Nat} {hp : List (List Int)} {br : Int} {f : Fm} {fs : List Fm}, (runM hs rs k hp br f fs).1 ≠ ("breath" : Str) → runM hs rs k hp (br + 1) f fs = runM hs rs k hp br f fs
  | 0, hp, br, f, fs, h => by
    by_cases c : rs.length ≤ f.at_
    · rw [runM_stray c, runM_stray c]
    · rw [runM_rows c, runM_rows c]
  | k + 1, hp, br, f, fs, h => by
    by_cases c : rs.length ≤ f.at_
    · rw [runM_stray c, runM_stray c]
    · have u : (∃ hp', stepM hs rs hp br f fs = .fin "breath" 0 hp') ∨ stepM hs rs hp (br + 1) f fs = (stepM hs rs hp br f fs).up := op_up
      rcases u with ⟨hp', u⟩ | u
      · rw [runM_fin c u] at h; exact absurd rfl h
      · cases e : stepM hs rs hp br f fs with
        | on hp2 br2 f2 fs2 =>
          rw [e] at u
          rw [runM_on c e] at h ⊢
          rw [runM_on c u]
          exact run_breath h
        | fin w n hp2 =>
          rw [e] at u
          rw [runM_fin c e, runM_fin c u]
theorem go_breath {given : List Int} {k : Nat} (h : (goM hs rs given br k).1 ≠ ("breath" : Str)) : goM hs rs given (br + 1) k = goM hs rs given br k := by
  unfold goM at h ⊢
  by_cases c : br < 1
  · rw [if_pos c] at h; exact absurd rfl h
  · rw [if_neg c] at h
    rw [if_neg c, if_neg (by omega), show br + 1 - 1 = br - 1 + 1 by omega]
    exact run_breath h
theorem go_breaths {given : List Int} {k : Nat} (h : (goM hs rs given br k).1 ≠ ("breath" : Str)) : ∀ j : Nat, goM hs rs given (br + j) k = goM hs rs given br k
  | 0 => by rw [show br + ((0 : Nat) : Int) = br by omega]
  | j + 1 => by
    have ih := go_breaths h j
    rw [show br + ((j + 1 : Nat) : Int) = br + (j : Int) + 1 by omega, go_breath (by rw [ih]; exact h), ih]
theorem go_more {given : List Int} {k : Nat} (j : Nat) (h : (goM hs rs given br k).1 ≠ ("rows" : Str)) : goM hs rs given br (k + j) = goM hs rs given br k := by
  unfold goM at h ⊢
  split
  · rfl
  · rename_i c
    rw [if_neg c] at h
    exact run_more j h
theorem go_word {given : List Int} {k : Nat} : ((goM hs rs given br k).1 = ("rows" : Str) ∨ (goM hs rs given br k).1 = ("breath" : Str) → (goM hs rs given br k).2.1 = 0) ∧ PyData.strOk (goM hs rs given br k).1 = true := by
  unfold goM
  split
  · exact ⟨fun _ => rfl, show PyData.strOk ("breath" : Str) = true by decide +kernel⟩
  · exact run_word
end

abbrev PN : Nat := 3
/-! ### pens -/
def q_Lpen (Z : Adr) (a : V) (H : Hp) (Q : VK) (E : XK) : Prop := ∃ sa ns, a = .ref sa ∧ Scr Z.K H sa ns ∧ ∀ p H', Same H H' → H p = none → Pn Z.K PN H' p → Q (.ref p) H'
def q_Lmixed (Z : Adr) (a b : V) (H : Hp) (Q : VK) (E : XK) : Prop := ∃ c k, a = .int c ∧ b = .int k ∧ ∀ z, Q (.int z) H
def q_Ltake (Z : Adr) (a b : V) (H : Hp) (Q : VK) (E : XK) : Prop := ∃ p m, a = .ref p ∧ b = .int m ∧ 0 < m ∧ m < 10 ^ 70 ∧ Pn Z.K PN H p ∧ ∀ v H', 0 ≤ v → v < m → Pn Z.K PN H' p → But p H H' → Q (.int v) H'

/-! ### the machine as it lies -/
inductive Tg where
  | mach | hd | rw | heap | frs | row
  | fr (i : Nat) | bx (i : Nat) | vs (i : Nat)
structure FA where
  a : Addr
  dx : Addr
  lb : Addr
  lv : Addr
structure MA where
  p : Addr
  dx : Addr
  lh : Addr
  lr : Addr
  lo : Addr
  lf : Addr
  as : List Addr
  fa : List FA
  vh : List V
  vr : List V
theorem tag_ne {G : Addr → Option Tg} {a b : Addr} {s t : Tg} (h1 : G a = some s) (h2 : G b = some t) (n : s ≠ t) : a ≠ b := fun e => by
  subst e
  rw [h1] at h2
  exact n (Option.some.inj h2)
def updG (G : Addr → Option Tg) (a : Addr) (t : Tg) : Addr → Option Tg := fun b => if b = a then some t else G b
theorem updG_same {G : Addr → Option Tg} {a : Addr} {t : Tg} : updG G a t a = some t := if_pos rfl
theorem updG_ne {G : Addr → Option Tg} {a b : Addr} {t : Tg} (h : b ≠ a) : updG G a t b = G b := if_neg h
structure FrAt (Z : Adr) (H : Hp) (x : FA) (f : Fm) : Prop where
  o : H x.a = some (.ins Z.c_Frame x.dx (fs_Frame (.int f.at_) (.ref x.lb) (.ref x.lv)))
  b : H x.lb = some (.lst (f.bx.map V.int))
  v : H x.lv = some (.lst (f.vs.map V.int))
/-- the frames, from the lowest one on -/
structure FrsAt (Z : Adr) (H : Hp) (G : Addr → Option Tg) (fa : List FA) (L : List Fm) : Prop where
  len : fa.length = L.length
  fr : ∀ (i : Nat) (x : FA) (f : Fm), fa[i]? = some x → L[i]? = some f → FrAt Z H x f
  g : ∀ (i : Nat) (x : FA), fa[i]? = some x → G x.a = some (.fr i) ∧ G x.lb = some (.bx i) ∧ G x.lv = some (.vs i)
structure MachAt (Z : Adr) (H0 H : Hp) (G : Addr → Option Tg) (A : MA) (hs rs hp : List (List Int)) (br : Int) (L : List Fm) : Prop where
  S : Same H0 H
  dom : ∀ a t, G a = some t → H0 a = none
  own : ∀ a t, G a = some t → H a ≠ none
  o : H A.p = some (.ins Z.c_Machine A.dx (fs_Machine (.ref A.lh) (.ref A.lr) (.ref A.lo) (.int br) (.ref A.lf) (.int 0)))
  hh : H A.lh = some (.lst A.vh)
  th : TupsAt H hs A.vh
  hr : H A.lr = some (.lst A.vr)
  tr : TupsAt H rs A.vr
  heap : HeapAt H A.lo A.as hp
  lf : H A.lf = some (.lst (A.fa.map fun x => V.ref x.a))
  frs : FrsAt Z H G A.fa L
  gp : G A.p = some .mach
  gh : G A.lh = some .hd
  gr : G A.lr = some .rw
  go : G A.lo = some .heap
  gf : G A.lf = some .frs
  ga : ∀ a ∈ A.as, G a = some .row
theorem FrsAt.keep {Z : Adr} {H H' : Hp} {G G' : Addr → Option Tg} {fa : List FA} {L : List Fm} (h : FrsAt Z H G fa L) (hG : ∀ a t i, (t = .fr i ∨ t = .bx i ∨ t = .vs i) → G a = some t → G' a = some t) (hb : ∀ a i o, (G a = some (.fr i) ∨ G a = some (.bx i) ∨ G a = some (.vs i)) → H a = some o → H' a = some o) : FrsAt Z H' G' fa L := by
  refine ⟨h.len, fun i x f e1 e2 => ?_, fun i x e => ?_⟩
  · obtain ⟨g1, g2, g3⟩ := h.g i x e1
    have := h.fr i x f e1 e2
    exact ⟨hb _ i _ (.inl g1) this.o, hb _ i _ (.inr (.inl g2)) this.b, hb _ i _ (.inr (.inr g3)) this.v⟩
  · obtain ⟨g1, g2, g3⟩ := h.g i x e
    exact ⟨hG _ _ i (.inl rfl) g1, hG _ _ i (.inr (.inl rfl)) g2, hG _ _ i (.inr (.inr rfl)) g3⟩
section
variable {Z : Adr} {H0 H H' : Hp} {G : Addr → Option Tg} {A : MA} {hs rs hp : List (List Int)} {br : Int} {L : List Fm}
theorem MachAt.same (h : MachAt Z H0 H G A hs rs hp br L) (S : Same H H') : MachAt Z H0 H' G A hs rs hp br L :=
  ⟨h.S.trans S, h.dom, (fun a t g => by
    cases e : H a with
    | none => exact absurd e (h.own a t g)
    | some o => rw [S _ _ e]; exact fun z => by cases z),
   S _ _ h.o, S _ _ h.hh, h.th.mono (TupS.of S), S _ _ h.hr, h.tr.mono (TupS.of S), h.heap.same S, S _ _ h.lf, h.frs.keep (fun _ _ _ _ z => z) (fun _ _ _ _ z => S _ _ z), h.gp, h.gh, h.gr, h.go, h.gf, h.ga⟩
theorem MachAt.new {q : Addr} {o : HO} (h : MachAt Z H0 H G A hs rs hp br L) (hq : H q = none) : MachAt Z H0 (upd H q o) G A hs rs hp br L := h.same (same_new hq)
theorem MachAt.free {q : Addr} (h : MachAt Z H0 H G A hs rs hp br L) (hq : H q = none) : G q = none := by
  cases e : G q with
  | none => rfl
  | some t => exact absurd hq (h.own q t e)
/-- a change of what is owned -/
theorem MachAt.mutS {q : Addr} {t : Tg} (h : MachAt Z H0 H G A hs rs hp br L) (hq : G q = some t) (B : But q H H') : Same H0 H' := fun b o e => B b o (.inl fun z => by
  rw [z, h.dom q t hq] at e; cases e) (h.S b o e)
theorem own_but {q : Addr} {u : HO} (ho : ∀ a t, G a = some t → H a ≠ none) (B : But q H H') (hu : H' q = some u) : ∀ a t, G a = some t → H' a ≠ none := fun a t g => by
  by_cases c : a = q
  · rw [c, hu]; exact fun z => by cases z
  · cases e : H a with
    | none => exact absurd e (ho a t g)
    | some o => rw [B a o (.inl c) e]; exact fun z => by cases z
/-- breaths -/
theorem MachAt.breath {br' : Int} (h : MachAt Z H0 H G A hs rs hp br L) (B : But A.p H H') (e : H' A.p = some (.ins Z.c_Machine A.dx (fs_Machine (.ref A.lh) (.ref A.lr) (.ref A.lo) (.int br') (.ref A.lf) (.int 0)))) : MachAt Z H0 H' G A hs rs hp br' L := by
  have T : TupS H H' := TupS.but B h.o (by intro ys z; cases z)
  have w : ∀ {a : Addr} {t : Tg} {o : HO}, G a = some t → t ≠ .mach → H a = some o → H' a = some o := fun g n e => B.rd (tag_ne g h.gp n) e
  refine ⟨h.mutS h.gp B, h.dom, own_but h.own B e, e, w h.gh (by intro z; cases z) h.hh, h.th.mono T, w h.gr (by intro z; cases z) h.hr, h.tr.mono T, ?_, w h.gf (by intro z; cases z) h.lf, h.frs.keep (fun _ _ _ _ z => z) fun a i o g e => ?_, h.gp, h.gh, h.gr, h.go, h.gf, h.ga⟩
  · exact h.heap.keep fun b xs z e => by
      rcases z with z | z
      · rw [z] at e ⊢; exact w h.go (by intro z; cases z) e
      · exact w (h.ga b z) (by intro z; cases z) e
  · rcases g with g | g | g
    all_goals exact w g (by intro z; cases z) e
/-- a change of what is not owned -/
theorem MachAt.other {q : Addr} (h : MachAt Z H0 H G A hs rs hp br L) (B : But q H H') (g : G q = none) (q0 : H0 q = none) (nt : ∀ ys, H q ≠ some (.tup ys)) : MachAt Z H0 H' G A hs rs hp br L := by
  have T : TupS H H' := fun b ys e => B b _ (.inl fun z => nt ys (z ▸ e)) e
  have w : ∀ {a : Addr} {t : Tg} {o : HO}, G a = some t → H a = some o → H' a = some o := fun g1 e => B.rd (fun z => by rw [z, g] at g1; cases g1) e
  refine ⟨fun b o e => B b o (.inl fun z => by rw [z, q0] at e; cases e) (h.S b o e), h.dom, fun a t g1 => ?_, w h.gp h.o, w h.gh h.hh, h.th.mono T, w h.gr h.hr, h.tr.mono T, ?_, w h.gf h.lf, h.frs.keep (fun _ _ _ _ z => z) fun a i o g e => ?_, h.gp, h.gh, h.gr, h.go, h.gf, h.ga⟩
  · cases e : H a with
    | none => exact absurd e (h.own a t g1)
    | some o => rw [w g1 e]; exact fun z => by cases z
  · exact h.heap.keep fun b xs z e => by
      rcases z with z | z
      · rw [z] at e ⊢; exact w h.go e
      · exact w (h.ga b z) e
  · rcases g with g | g | g
    all_goals exact w g e
/-- a change within one frame -/
theorem MachAt.frame {q : Addr} {t : Tg} {u : HO} {G' : Addr → Option Tg} {i : Nat} {x x' : FA} {f' : Fm} (h : MachAt Z H0 H G A hs rs hp br L) (hi : A.fa[i]? = some x) (hq : G q = some t) (ht : t = .fr i ∨ t = .bx i ∨ t = .vs i) (B : But q H H') (hu : H' q = some u) (nt : ∀ ys, H q ≠ some (.tup ys))
    (hG : ∀ a s, G a = some s → G' a = some s) (hG2 : ∀ a s, G' a = some s → G a = some s ∨ (H0 a = none ∧ H' a ≠ none))
    (hx : x'.a = x.a) (ff : FrAt Z H' x' f') (hg : G' x'.a = some (.fr i) ∧ G' x'.lb = some (.bx i) ∧ G' x'.lv = some (.vs i)) : MachAt Z H0 H' G' { A with fa := A.fa.set i x' } hs rs hp br (L.set i f') := by
  have T : TupS H H' := fun b ys e => B b _ (.inl fun z => nt ys (z ▸ e)) e
  have w : ∀ {a : Addr} {s : Tg} {o : HO}, G a = some s → s ≠ t → H a = some o → H' a = some o := fun g n e => B.rd (tag_ne g hq n) e
  have nm : t ≠ .mach ∧ t ≠ .hd ∧ t ≠ .rw ∧ t ≠ .heap ∧ t ≠ .frs ∧ t ≠ .row := by
    rcases ht with z | z | z <;> subst z <;> refine ⟨?_, ?_, ?_, ?_, ?_, ?_⟩ <;> intro z <;> cases z
  have hi' := (List.getElem?_eq_some_iff.mp hi).1
  refine ⟨h.mutS hq B, fun a s g => ?_, fun a s g => ?_, w h.gp nm.1.symm h.o, w h.gh nm.2.1.symm h.hh, h.th.mono T, w h.gr nm.2.2.1.symm h.hr, h.tr.mono T, ?_, ?_, ⟨by rw [List.length_set, List.length_set]; exact h.frs.len, fun j y g e1 e2 => ?_, fun j y e1 => ?_⟩, hG _ _ h.gp, hG _ _ h.gh, hG _ _ h.gr, hG _ _ h.go, hG _ _ h.gf, fun a ha => hG _ _ (h.ga a ha)⟩
  · rcases hG2 a s g with z | z
    · exact h.dom a s z
    · exact z.1
  · rcases hG2 a s g with z | z
    · exact own_but h.own B hu a s z
    · exact z.2
  · exact h.heap.keep fun b xs z e => by
      rcases z with z | z
      · rw [z] at e ⊢; exact w h.go nm.2.2.2.1.symm e
      · exact w (h.ga b z) nm.2.2.2.2.2.symm e
  · rw [w h.gf nm.2.2.2.2.1.symm h.lf]
    congr 2
    apply List.ext_getElem?
    intro j
    by_cases c : i = j
    · subst c
      rw [List.getElem?_map, List.getElem?_map, hi, List.getElem?_set_self hi']
      simp [hx]
    · rw [List.getElem?_map, List.getElem?_map, List.getElem?_set_ne c]
  · by_cases c : i = j
    · subst c
      rw [List.getElem?_set_self hi'] at e1
      rw [List.getElem?_set_self (by rw [← h.frs.len]; exact hi')] at e2
      cases e1; cases e2; exact ff
    · rw [List.getElem?_set_ne c] at e1 e2
      have r := h.frs.fr j y g e1 e2
      obtain ⟨g1, g2, g3⟩ := h.frs.g j y e1
      refine ⟨w g1 ?_ r.o, w g2 ?_ r.b, w g3 ?_ r.v⟩
      all_goals
        rcases ht with z | z | z <;> subst z <;> intro z <;> cases z <;> exact c rfl
  · by_cases c : i = j
    · subst c
      rw [List.getElem?_set_self hi'] at e1
      cases e1; exact hg
    · rw [List.getElem?_set_ne c] at e1
      obtain ⟨g1, g2, g3⟩ := h.frs.g j y e1
      exact ⟨hG _ _ g1, hG _ _ g2, hG _ _ g3⟩
/-- a change of the rows of numbers -/
theorem MachAt.heaped {as' : List Addr} {hp' : List (List Int)} (h : MachAt Z H0 H G A hs rs hp br L) (F : Fr A.lo A.as H H') (hA : HeapAt H' A.lo as' hp') (hn : ∀ n ∈ as', n ∈ A.as ∨ H n = none) : ∃ G', MachAt Z H0 H' G' { A with as := as' } hs rs hp' br L := by
  have w : ∀ {a : Addr} {s : Tg} {o : HO}, G a = some s → s ≠ .heap → s ≠ .row → H a = some o → H' a = some o := fun g n1 n2 e => F _ _ (.inl ⟨tag_ne g h.go n1, fun z => n2 (Option.some.inj (g.symm.trans (h.ga _ z)))⟩) e
  have T : TupS H H' := fun b ys e => F b _ (.inl ⟨fun z => (by rw [z, h.heap.top] at e; cases e), fun z => by
    obtain ⟨j, hj⟩ := List.mem_iff_getElem?.mp z
    obtain ⟨c, _, e2⟩ := h.heap.row j b hj
    rw [e] at e2; cases e2⟩) e
  have S' : Same H0 H' := fun b o e => F b o (.inl ⟨fun z => (by rw [z, h.dom _ _ h.go] at e; cases e), fun z => (by rw [h.dom _ _ (h.ga b z)] at e; cases e)⟩) (h.S b o e)
  have row' : ∀ a ∈ as', H' a ≠ none := fun a ha => by
    obtain ⟨j, hj⟩ := List.mem_iff_getElem?.mp ha
    obtain ⟨c, _, e2⟩ := hA.row j a hj
    rw [e2]; exact fun z => by cases z
  let G' : Addr → Option Tg := fun a => if a ∈ as' then some .row else if a ∈ A.as then none else G a
  have gk : ∀ {a : Addr} {s : Tg}, G a = some s → s ≠ .row → H a ≠ none → G' a = some s := fun {a s} g n e => by
    have n2 : a ∉ A.as := fun z => n (Option.some.inj (g.symm.trans (h.ga _ z)))
    have n1 : a ∉ as' := fun z => by
      rcases hn a z with z | z
      · exact n2 z
      · exact e z
    show (if a ∈ as' then some .row else if a ∈ A.as then none else G a) = some s
    rw [if_neg n1, if_neg n2, g]
  refine ⟨G', S', fun a s g => ?_, fun a s g => ?_, w h.gp (by intro z; cases z) (by intro z; cases z) h.o, w h.gh (by intro z; cases z) (by intro z; cases z) h.hh, h.th.mono T, w h.gr (by intro z; cases z) (by intro z; cases z) h.hr, h.tr.mono T, hA, w h.gf (by intro z; cases z) (by intro z; cases z) h.lf, h.frs.keep (fun a s i c g => ?_) (fun a i o g e => ?_),
    gk h.gp (by intro z; cases z) (h.own _ _ h.gp), gk h.gh (by intro z; cases z) (h.own _ _ h.gh), gk h.gr (by intro z; cases z) (h.own _ _ h.gr), gk h.go (by intro z; cases z) (h.own _ _ h.go), gk h.gf (by intro z; cases z) (h.own _ _ h.gf), fun a ha => if_pos ha⟩
  · have g : (if a ∈ as' then some .row else if a ∈ A.as then none else G a) = some s := g
    by_cases c : a ∈ as'
    · rcases hn a c with z | z
      · exact h.dom _ _ (h.ga a z)
      · exact h.S.free z
    · rw [if_neg c] at g
      by_cases c2 : a ∈ A.as
      · rw [if_pos c2] at g; cases g
      · rw [if_neg c2] at g; exact h.dom a s g
  · have g : (if a ∈ as' then some .row else if a ∈ A.as then none else G a) = some s := g
    by_cases c : a ∈ as'
    · exact row' a c
    · rw [if_neg c] at g
      by_cases c2 : a ∈ A.as
      · rw [if_pos c2] at g; cases g
      · rw [if_neg c2] at g
        by_cases c1 : a = A.lo
        · rw [c1, hA.top]; exact fun z => by cases z
        · cases e : H a with
          | none => exact absurd e (h.own a s g)
          | some o => rw [F a o (.inl ⟨c1, c2⟩) e]; exact fun z => by cases z
  · refine gk g ?_ (h.own _ _ g)
    rcases c with z | z | z <;> subst z <;> intro z <;> cases z
  · rcases g with g | g | g
    all_goals exact w g (by intro z; cases z) (by intro z; cases z) e
/-- a frame more -/
theorem MachAt.push {x : FA} {f : Fm} (h : MachAt Z H0 H G A hs rs hp br L) (hf : FrAt Z H x f) (n1 : H0 x.a = none) (n2 : H0 x.lb = none) (n3 : H0 x.lv = none) (m1 : G x.a = none) (m2 : G x.lb = none) (m3 : G x.lv = none) (d1 : x.lb ≠ x.a) (d2 : x.lv ≠ x.a) (d3 : x.lv ≠ x.lb)
    (B : But A.lf H H') (e : H' A.lf = some (.lst ((A.fa.map fun x => V.ref x.a) ++ [.ref x.a]))) : ∃ G', MachAt Z H0 H' G' { A with fa := A.fa ++ [x] } hs rs hp br (L ++ [f]) := by
  have w : ∀ {a : Addr} {s : Tg} {o : HO}, G a = some s → s ≠ .frs → H a = some o → H' a = some o := fun g n e => B.rd (tag_ne g h.gf n) e
  have w2 : ∀ {a : Addr} {o : HO}, G a = none → H a = some o → H' a = some o := fun g e => B.rd (fun z => by rw [z, h.gf] at g; cases g) e
  have T : TupS H H' := TupS.butL B h.lf
  let G' : Addr → Option Tg := updG (updG (updG G x.a (.fr L.length)) x.lb (.bx L.length)) x.lv (.vs L.length)
  have gk : ∀ {a : Addr} {s : Tg}, G a = some s → G' a = some s := fun {a s} g => by
    show updG (updG (updG G x.a (.fr L.length)) x.lb (.bx L.length)) x.lv (.vs L.length) a = some s
    rw [updG_ne (fun z => by rw [z, m3] at g; cases g), updG_ne (fun z => by rw [z, m2] at g; cases g), updG_ne (fun z => by rw [z, m1] at g; cases g), g]
  have gn : ∀ {a : Addr} {s : Tg}, G' a = some s → G a = some s ∨ a = x.a ∨ a = x.lb ∨ a = x.lv := fun {a s} g => by
    by_cases c3 : a = x.lv
    · exact .inr (.inr (.inr c3))
    · by_cases c2 : a = x.lb
      · exact .inr (.inr (.inl c2))
      · by_cases c1 : a = x.a
        · exact .inr (.inl c1)
        · have g : updG (updG (updG G x.a (.fr L.length)) x.lb (.bx L.length)) x.lv (.vs L.length) a = some s := g
          rw [updG_ne c3, updG_ne c2, updG_ne c1] at g
          exact .inl g
  have new : ∀ {a : Addr} {o : HO}, H' a = some o → H' a ≠ none := fun e z => by rw [e] at z; cases z
  have hl := h.frs.len
  refine ⟨G', h.mutS h.gf B, fun a s g => ?_, fun a s g => ?_, w h.gp (by intro z; cases z) h.o, w h.gh (by intro z; cases z) h.hh, h.th.mono T, w h.gr (by intro z; cases z) h.hr, h.tr.mono T, ?_, by rw [e, List.map_append]; rfl, ⟨by rw [List.length_append, List.length_append, hl]; rfl, fun j y g e1 e2 => ?_, fun j y e1 => ?_⟩, gk h.gp, gk h.gh, gk h.gr, gk h.go, gk h.gf, fun a ha => gk (h.ga a ha)⟩
  · rcases gn g with z | z | z | z
    · exact h.dom a s z
    all_goals rw [z]; assumption
  · rcases gn g with z | z | z | z
    · exact own_but h.own B e a s z
    · rw [z]; exact new (w2 m1 hf.o)
    · rw [z]; exact new (w2 m2 hf.b)
    · rw [z]; exact new (w2 m3 hf.v)
  · exact h.heap.keep fun b xs z e => by
      rcases z with z | z
      · rw [z] at e ⊢; exact w h.go (by intro z; cases z) e
      · exact w (h.ga b z) (by intro z; cases z) e
  · by_cases c : j < A.fa.length
    · rw [List.getElem?_append_left c] at e1
      rw [List.getElem?_append_left (by omega)] at e2
      have r := h.frs.fr j y g e1 e2
      obtain ⟨g1, g2, g3⟩ := h.frs.g j y e1
      exact ⟨w g1 (by intro z; cases z) r.o, w g2 (by intro z; cases z) r.b, w g3 (by intro z; cases z) r.v⟩
    · rw [List.getElem?_append_right (by omega)] at e1 e2
      have hj := (List.getElem?_eq_some_iff.mp e1).1
      simp at hj
      have : j = A.fa.length := by omega
      subst this
      rw [Nat.sub_self] at e1
      rw [hl, Nat.sub_self] at e2
      cases e1; cases e2
      exact ⟨w2 m1 hf.o, w2 m2 hf.b, w2 m3 hf.v⟩
  · by_cases c : j < A.fa.length
    · rw [List.getElem?_append_left c] at e1
      obtain ⟨g1, g2, g3⟩ := h.frs.g j y e1
      exact ⟨gk g1, gk g2, gk g3⟩
    · rw [List.getElem?_append_right (by omega)] at e1
      have hj := (List.getElem?_eq_some_iff.mp e1).1
      simp at hj
      have : j = A.fa.length := by omega
      subst this
      rw [Nat.sub_self] at e1
      cases e1
      rw [hl]
      refine ⟨?_, ?_, ?_⟩
      · show updG (updG (updG G x.a (.fr L.length)) x.lb (.bx L.length)) x.lv (.vs L.length) x.a = _
        rw [updG_ne d2.symm, updG_ne d1.symm, updG_same]
      · show updG (updG (updG G x.a (.fr L.length)) x.lb (.bx L.length)) x.lv (.vs L.length) x.lb = _
        rw [updG_ne d3.symm, updG_same]
      · exact updG_same
/-- a frame less -/
theorem MachAt.pop {f : Fm} (h : MachAt Z H0 H G A hs rs hp br (L ++ [f])) (B : But A.lf H H') (e : H' A.lf = some (.lst (A.fa.map fun x => V.ref x.a).dropLast)) : MachAt Z H0 H' G { A with fa := A.fa.dropLast } hs rs hp br L := by
  have w : ∀ {a : Addr} {s : Tg} {o : HO}, G a = some s → s ≠ .frs → H a = some o → H' a = some o := fun g n e => B.rd (tag_ne g h.gf n) e
  have T : TupS H H' := TupS.butL B h.lf
  have hl := h.frs.len
  rw [List.length_append] at hl
  simp only [List.length_singleton] at hl
  have dl : ∀ {j : Nat} {y : FA}, A.fa.dropLast[j]? = some y → A.fa[j]? = some y ∧ j < L.length := fun {j y} e => by
    have hj := (List.getElem?_eq_some_iff.mp e).1
    rw [List.length_dropLast] at hj
    rw [List.dropLast_eq_take, List.getElem?_take, if_pos (by omega)] at e
    exact ⟨e, by omega⟩
  refine ⟨h.mutS h.gf B, h.dom, own_but h.own B e, w h.gp (by intro z; cases z) h.o, w h.gh (by intro z; cases z) h.hh, h.th.mono T, w h.gr (by intro z; cases z) h.hr, h.tr.mono T, ?_, by rw [e, List.map_dropLast], ⟨by rw [List.length_dropLast]; omega, fun j y g e1 e2 => ?_, fun j y e1 => h.frs.g j y (dl e1).1⟩, h.gp, h.gh, h.gr, h.go, h.gf, h.ga⟩
  · exact h.heap.keep fun b xs z e => by
      rcases z with z | z
      · rw [z] at e ⊢; exact w h.go (by intro z; cases z) e
      · exact w (h.ga b z) (by intro z; cases z) e
  · have r := h.frs.fr j y g (dl e1).1 (by rw [List.getElem?_append_left (dl e1).2]; exact e2)
    obtain ⟨g1, g2, g3⟩ := h.frs.g j y (dl e1).1
    exact ⟨w g1 (by intro z; cases z) r.o, w g2 (by intro z; cases z) r.b, w g3 (by intro z; cases z) r.v⟩
end

/-! ### the promises of the machine -/
def EndAt (Z : Adr) (H0 H : Hp) (p : Addr) (n : Int) (hp : List (List Int)) : Prop := Same H0 H ∧ ∃ (dx : Addr) (v1 v2 v4 v5 : V) (lo : Addr) (as : List Addr), H p = some (.ins Z.c_Machine dx (fs_Machine v1 v2 (.ref lo) v4 v5 (.int n))) ∧ HeapAt H lo as hp
def PostM (Z : Adr) (H0 : Hp) (p : Addr) (hs rs : List (List Int)) (r : Sx) (Q : VK) : Prop := match r with
  | .on hp br f fs => ∀ H' G A, MachAt Z H0 H' G A hs rs hp br (f :: fs).reverse → A.p = p → Q .non H'
  | .fin w n hp => ∀ H', EndAt Z H0 H' p n hp → Q (.str w) H'
theorem MachAt.fin {Z : Adr} {H0 H : Hp} {G : Addr → Option Tg} {A : MA} {hs rs hp : List (List Int)} {br : Int} {L : List Fm} (M : MachAt Z H0 H G A hs rs hp br L) : EndAt Z H0 H A.p 0 hp := ⟨M.S, _, _, _, _, _, _, _, M.o, M.heap⟩
theorem rev_at {f : Fm} {fs : List Fm} : (f :: fs).reverse[fs.length]? = some f := by
  rw [List.reverse_cons, List.getElem?_append_right (by rw [List.length_reverse]; omega), List.length_reverse, Nat.sub_self]; rfl
theorem rev_set {f g : Fm} {fs : List Fm} : (f :: fs).reverse.set fs.length g = (g :: fs).reverse := by
  rw [List.reverse_cons, List.reverse_cons]
  rw [List.set_append_right _ _ (by rw [List.length_reverse]; exact Nat.le_refl _), List.length_reverse, Nat.sub_self]; rfl
def q_Frame_init (Z : Adr) (s a b : V) (H : Hp) (Q : VK) (E : XK) : Prop := ∃ p dx, s = .ref p ∧ H p = some (.ins Z.c_Frame dx []) ∧ ∀ lv H', But p H H' → H lv = none → H' lv = some (.lst []) → H' p = some (.ins Z.c_Frame dx (fs_Frame a b (.ref lv))) → Q .non H'
def q_Frame_take (Z : Adr) (s m : V) (H : Hp) (Q : VK) (E : XK) : Prop := ∃ (a dx : Addr) (v1 v2 : V) (lv : Addr) (vs : List Int) (k : Nat), s = .ref a ∧ m = .int k ∧ H a = some (.ins Z.c_Frame dx (fs_Frame v1 v2 (.ref lv))) ∧ H lv = some (.lst (vs.map V.int)) ∧
  (vs.length < k → Q .non H) ∧ (k ≤ vs.length → ∀ l lv' H', But a H H' → H l = none → H lv' = none → l ≠ lv' → H' l = some (.lst ((vs.drop (vs.length - k)).map V.int)) → H' lv' = some (.lst ((vs.take (vs.length - k)).map V.int)) → H' a = some (.ins Z.c_Frame dx (fs_Frame v1 v2 (.ref lv'))) → Q (.ref l) H')
def q_Frame_lay (Z : Adr) (s v : V) (H : Hp) (Q : VK) (E : XK) : Prop := ∃ (a dx : Addr) (v1 v2 : V) (lv : Addr) (vs : List V), s = .ref a ∧ H a = some (.ins Z.c_Frame dx (fs_Frame v1 v2 (.ref lv))) ∧ H lv = some (.lst vs) ∧ vs.length < 16000000 ∧ ∀ H', But lv H H' → H' lv = some (.lst (vs ++ [v])) → Q .non H'
def q_Machine_breathe (Z : Adr) (s : V) (H : Hp) (Q : VK) (E : XK) : Prop := ∃ (p dx : Addr) (v1 v2 v3 v5 v6 : V) (br : Int), s = .ref p ∧ H p = some (.ins Z.c_Machine dx (fs_Machine v1 v2 v3 (.int br) v5 v6)) ∧ (br < 1 → Q (.str "breath") H) ∧
  (1 ≤ br → ∀ H', But p H H' → H' p = some (.ins Z.c_Machine dx (fs_Machine v1 v2 v3 (.int (br - 1)) v5 v6)) → Q .non H')
def q_Machine_begin (Z : Adr) (s n l : V) (H : Hp) (Q : VK) (E : XK) : Prop := ∃ H0 G A hs rs hp br L, ∃ (k : Nat) (lp : Addr) (ps : List Int), s = .ref A.p ∧ n = .int k ∧ l = .ref lp ∧ MachAt Z H0 H G A hs rs hp br L ∧ CodeOK hs rs ∧ k < hs.length ∧ H lp = some (.lst (ps.map V.int)) ∧ ps.length ≤ 1000 ∧ L.length ≤ 1000 ∧
  ∀ H' G' A', MachAt Z H0 H' G' A' hs rs hp br (L ++ [⟨((hs.getD k []).getD 0 0).toNat, ps ++ List.replicate ((hs.getD k []).getD 2 0 - (hs.getD k []).getD 1 0).toNat 0, []⟩]) → A'.p = A.p → Q .non H'
/-- a method of the machine, of its topmost frame -/
def q_M (Z : Adr) (s a : V) (H : Hp) (Q : VK) (r : List (List Int) → List (List Int) → List (List Int) → Int → Fm → List Fm → Sx) (ok : List (List Int) → List (List Int) → Fm → Prop) : Prop := ∃ H0 G A x hs rs hp br f fs N, s = .ref A.p ∧ a = .ref (FA.a x) ∧ MachAt Z H0 H G A hs rs hp br (f :: fs).reverse ∧ A.fa[fs.length]? = some x ∧ CodeOK hs rs ∧ MOk N hp f fs ∧ N ≤ 9000000 ∧ ok hs rs f ∧ PostM Z H0 A.p hs rs (r hs rs hp br f fs) Q
def q_Machine_call (Z : Adr) (s a n : V) (H : Hp) (Q : VK) (E : XK) : Prop := ∃ k : Int, n = .int k ∧ q_M Z s a H Q (fun hs _ hp br f fs => callM hs hp br f fs k) fun hs _ _ => 0 ≤ k ∧ k < hs.length
def q_Machine_back (Z : Adr) (s a : V) (H : Hp) (Q : VK) (E : XK) : Prop := q_M Z s a H Q (fun _ _ hp br f fs => backM hp br f fs) fun _ _ _ => True
def q_Machine_fail (Z : Adr) (s a : V) (H : Hp) (Q : VK) (E : XK) : Prop := q_M Z s a H Q (fun _ _ hp br f fs => failM hp f) fun _ _ _ => True
def q_Machine_deed (Z : Adr) (s a n : V) (H : Hp) (Q : VK) (E : XK) : Prop := ∃ k : Int, n = .int k ∧ q_M Z s a H Q (fun _ _ hp br f fs => deedM hp br f fs k) fun hs _ _ => 8 ≤ k ∧ k ≤ 19
def q_Machine_boxed (Z : Adr) (s a o n : V) (H : Hp) (Q : VK) (E : XK) : Prop := ∃ op k : Int, o = .int op ∧ n = .int k ∧ q_M Z s a H Q (fun _ _ hp br f fs => boxM hp br f fs op k) fun _ _ _ => 0 ≤ k ∧ (op = 1 ∨ op = 2)
def q_Machine_led (Z : Adr) (s a o n : V) (H : Hp) (Q : VK) (E : XK) : Prop := ∃ op k : Int, o = .int op ∧ n = .int k ∧ q_M Z s a H Q (fun _ _ hp br f fs => ledM hp br f fs op k) fun _ rs _ => 0 ≤ k ∧ (op = 11 → 2 ≤ k)
def q_Machine_plain_row (Z : Adr) (s a o n : V) (H : Hp) (Q : VK) (E : XK) : Prop := ∃ op k : Int, o = .int op ∧ n = .int k ∧ q_M Z s a H Q (fun _ _ hp br f fs => plainM hp br f fs op k) fun _ _ _ => op = 4 → 0 ≤ k
def q_Machine_step (Z : Adr) (s a : V) (H : Hp) (Q : VK) (E : XK) : Prop := q_M Z s a H Q (fun hs rs hp br f fs => stepM hs rs hp br f fs) fun _ rs f => f.at_ < rs.length
def q0_Machine_init (Z : Adr) (s c g b : V) (H : Hp) (Q : VK) (E : XK) : Prop := ∃ (H0 : Hp) (p dx lc lg : Addr) (xs given : List Int) (hs rs : List (List Int)) (br : Int), s = .ref p ∧ c = .ref lc ∧ g = .ref lg ∧ b = .int br ∧ H p = some (.ins Z.c_Machine dx []) ∧ Same H0 H ∧ H0 p = none ∧
  SqL Z.K H lc (xs.map V.int) ∧ IsCode xs hs rs ∧ xs.length ≤ 100000 ∧ SqL Z.K H lg (given.map V.int) ∧ ∀ H' G A, MachAt Z H0 H' G A hs rs [given, []] br [] → A.p = p → Q .non H'
/-- rows that end within so many -/
def Ends (hs rs : List (List Int)) (given : List Int) (br : Int) (most : Int) (k : Nat) : Prop := (k : Int) ≤ most ∧ k ≤ 5000000 ∧ ((k : Int) < most → (goM hs rs given br k).1 ≠ "rows")
def q_Machine_go_on (Z : Adr) (s m : V) (H : Hp) (Q : VK) (E : XK) : Prop := ∃ H0 G A hs rs given br, ∃ (most : Int) (k : Nat), s = .ref A.p ∧ m = .int most ∧ MachAt Z H0 H G A hs rs [given, []] br [] ∧ CodeFig hs rs ∧ given.length ≤ 3000000 ∧ (∀ x ∈ given, Fig x) ∧ Ends hs rs given br most k ∧
  ∀ H', EndAt Z H0 H' A.p (goM hs rs given br k).2.1 (goM hs rs given br k).2.2 → Q (.str (goM hs rs given br k).1) H'
def q0_go (Z : Adr) (c g b m : V) (H : Hp) (Q : VK) (E : XK) : Prop := ∃ (lc lg : Addr) (xs given : List Int) (hs rs : List (List Int)) (br most : Int) (k : Nat), c = .ref lc ∧ g = .ref lg ∧ b = .int br ∧ m = .int most ∧ SqL Z.K H lc (xs.map V.int) ∧ IsCode xs hs rs ∧ CodeFig hs rs ∧ xs.length ≤ 100000 ∧ SqL Z.K H lg (given.map V.int) ∧ given.length ≤ 3000000 ∧ (∀ x ∈ given, Fig x) ∧ Ends hs rs given br most k ∧
  ∀ t l H', Same H H' → H t = none → H l = none → t ≠ l → H' t = some (.tup [.str (goM hs rs given br k).1, .int (goM hs rs given br k).2.1, .ref l]) → H' l = some (.lst (((goM hs rs given br k).2.2.getD 1 []).map V.int)) → Q (.ref t) H'

/-! ### codes as laws draw them, their numbers of at most sixty figures -/
def OpF (op n : Int) (fs rs : Nat) : Prop := OpOK op n fs rs ∧ -10 ^ 60 ≤ n ∧ n ≤ 10 ^ 60
def RowF (r : List Int) (fs rs : Nat) : Prop := ∃ op n : Int, r = [op, n] ∧ OpF op n fs rs
def q_Lnumber (Z : Adr) (a : V) (H : Hp) (Q : VK) (E : XK) : Prop := ∃ p, a = .ref p ∧ Pn Z.K PN H p ∧ ∀ v H', -10 ^ 60 ≤ v → v ≤ 10 ^ 60 → Pn Z.K PN H' p → But p H H' → Q (.int v) H'
/-- heads ahead of their starts -/
def PreH (hs : List (List Int)) : Prop := ∀ (i : Nat) (h : List Int), hs[i]? = some h → ∃ s p b : Int, h = [s, p, b] ∧ 0 ≤ p ∧ p ≤ (if 0 < i then 4 else 0) ∧ p ≤ b ∧ b ≤ 12
theorem PreH.mem {hs : List (List Int)} (h : PreH hs) {x : List Int} (hx : x ∈ hs) : ∃ s p b : Int, x = [s, p, b] := by
  obtain ⟨i, hi⟩ := List.mem_iff_getElem?.mp hx
  obtain ⟨s, p, b, e, _⟩ := h i x hi
  exact ⟨s, p, b, e⟩
def q_Lneeds (Z : Adr) (a b c : V) (H : Hp) (Q : VK) (E : XK) : Prop := ∃ (op n : Int) (lh : Addr) (hs : List (List Int)) (vs : List V) (m : Nat), a = .int op ∧ b = .int n ∧ c = .ref lh ∧ H lh = some (.lst vs) ∧ TupsAt H hs vs ∧ PreH hs ∧ OpOK op n hs.length m ∧ ∀ i H', Same H H' → Q (.int i) H'
def q_Lrow (Z : Adr) (a b c d : V) (H : Hp) (Q : VK) (E : XK) : Prop := ∃ (p : Addr) (ht : Int) (m : Nat) (lh : Addr) (hs : List (List Int)) (vs : List V), a = .ref p ∧ b = .int ht ∧ c = .int m ∧ d = .ref lh ∧ 0 < m ∧ m ≤ 1000 ∧ lh ≠ p ∧ Pn Z.K PN H p ∧ H lh = some (.lst vs) ∧ TupsAt H hs vs ∧ PreH hs ∧ 0 < hs.length ∧ hs.length ≤ 1000 ∧
  ∀ t op n H', But p H H' → Pn Z.K PN H' p → H' t = some (.tup [.int op, .int n]) → OpF op n hs.length m → Q (.ref t) H'
def q_Lheight (Z : Adr) (a b c d : V) (H : Hp) (Q : VK) (E : XK) : Prop := ∃ (op n : Int) (lh : Addr) (hs : List (List Int)) (vs : List V) (m : Nat) (ht : Int), a = .int op ∧ b = .int n ∧ c = .ref lh ∧ d = .int ht ∧ H lh = some (.lst vs) ∧ TupsAt H hs vs ∧ PreH hs ∧ OpOK op n hs.length m ∧ ∀ i H', Same H H' → Q (.int i) H'
def q_Lcode (Z : Adr) (a : V) (H : Hp) (Q : VK) (E : XK) : Prop := ∃ p, a = .ref p ∧ Pn Z.K PN H p ∧ ∀ t lh lr vh vr hs rs H', But p H H' → Pn Z.K PN H' p → H' t = some (.tup [.ref lh, .ref lr]) → lh ≠ p → lr ≠ p → H' lh = some (.lst vh) → H' lr = some (.lst vr) → TupsAt H' hs vh → TupsAt H' rs vr → CodeOK hs rs → (∀ r ∈ rs, -10 ^ 60 ≤ r.getD 1 0 ∧ r.getD 1 0 ≤ 10 ^ 60) → rs.length ≤ 24 → Q (.ref t) H'

theorem fig60 {v : Int} (h1 : -10 ^ 60 ≤ v) (h2 : v ≤ 10 ^ 60) : Fig v := fig_small (Nat.lt_of_le_of_lt (by omega : v.natAbs ≤ 10 ^ 60) (Nat.pow_lt_pow_right (by decide) (by decide)))
/-- an outcome as it lies -/
def OutAt (K : PySem.W.Frag) (H : Hp) (w : Str) (n : Int) (c : List Int) (v : V) : Prop := ∃ t l, v = .ref t ∧ H t = some (.tup [.str w, .int n, .ref l]) ∧ SqL K H l (c.map V.int)
def outD (w : Str) (n : Int) (c : List Int) : PyData := .tuple [.str w, .int n, .list (c.map PyData.int)]
theorem OutAt.dp {K : PySem.W.Frag} {H : Hp} {w : Str} {n : Int} {c : List Int} {v : V} (h : OutAt K H w n c v) : Dp K H v (outD w n c) := by
  obtain ⟨t, l, rfl, h1, h2⟩ := h
  exact .tup (SqT.of h1) (.cons (.str _) (.cons (.int _) (.cons (.lst h2 (dp_ints c)) .nil)))
theorem out_sh {w : Str} {n : Int} {c : List Int} (h : PyData.strOk w = true) : Sh 2 (outD w n c) := Sh.tup fun d hd => by
  simp only [List.mem_cons, List.not_mem_nil, or_false] at hd
  rcases hd with e | e | e <;> subst e
  · exact Sh.str h
  · exact Sh.int _
  · exact Sh.list (n := 0) (sh_ints _)
theorem OutAt.same {K : PySem.W.Frag} {H H' : Hp} {w : Str} {n : Int} {c : List Int} {v : V} (S : Same H H') (h : OutAt K H w n c v) : OutAt K H' w n c v := by
  obtain ⟨t, l, rfl, h1, h2⟩ := h
  exact ⟨t, l, rfl, S _ _ h1, S.seq h2⟩

/-! ### tuples written down -/
theorem tup_more {H : Hp} {xs : List (List Int)} {vs : List V} (R : TupsAt H xs vs) {t : Addr} (h : H t = none) (x : List Int) : TupsAt (upd H t (.tup (x.map V.int))) (xs ++ [x]) (vs ++ [.ref t]) :=
  (R.mono (TupS.new h)).app ⟨t, rfl, upd_same⟩
theorem s_rows {K : PySem.W.Frag} {H H4 : Hp} {l lx : Addr} {rows new : List (List Int)} {vs ws : List V} {Q : VK} (S : Same H H4) (h : H l = some (.lst vs)) (R : TupsAt H rows vs) (hx : H4 lx = some (.lst ws)) (N : TupsAt H4 new ws) (hl : rows.length + new.length ≤ 100000)
    (q : ∀ ly H5, H4 ly = none → Same H4 H5 → H5 ly = some (.lst (vs ++ ws)) → TupsAt H5 (rows ++ new) (vs ++ ws) → Q (.ref ly) H5) : rAddU K (.ref l) (.ref lx) H4 Q := by
  have big : 16000000 ≤ sizeLine := by decide
  refine s_add_l (S _ _ h) hx (by rw [R.len, N.len]; omega) fun ly hly => ?_
  exact q ly _ hly (same_new hly) upd_same (TupsAt.mono (TupS.new hly) (show TupsAt H4 (rows ++ new) (vs ++ ws) from (R.mono (TupS.of S)).append N))

def q_Machine_init (Z : Adr) (s c g b : V) (H : Hp) (Q : VK) (E : XK) : Prop := q0_Machine_init Z s c g b H Q E ∨ (∃ (p dx : Addr), s = .ref p ∧ H p = some (.ins Z.c_Machine dx []) ∧ NotC Z.K H c ∧ ∀ H', Same H H' → E (.ref Z.c_NoCode) none H')
def q_go (Z : Adr) (c g b m : V) (H : Hp) (Q : VK) (E : XK) : Prop := q0_go Z c g b m H Q E ∨ (NotC Z.K H c ∧ ∀ H', Same H H' → E (.ref Z.c_NoCode) none H')
theorem cut_takeV (ys : List V) (j : Nat) : cutV ys none (some (j : Int)) = ys.take j := by
  unfold cutV
  rw [HT.sIx_none, HT.sIx_nat, List.drop_zero, Nat.sub_zero]
  by_cases h : j ≤ ys.length
  · rw [Nat.min_eq_left h]
  · rw [Nat.min_eq_right (by omega), List.take_of_length_le (by omega), List.take_of_length_le (by omega)]
theorem cut_dropV (ys : List V) (j : Nat) : cutV ys (some (j : Int)) none = ys.drop j := by
  unfold cutV
  rw [HT.sIx_none, HT.sIx_nat]
  by_cases h : j ≤ ys.length
  · rw [Nat.min_eq_left h, List.take_of_length_le (by rw [List.length_drop]; omega)]
  · rw [Nat.min_eq_right (by omega), List.drop_eq_nil_of_le (by omega), List.drop_eq_nil_of_le (by omega)]
    simp
theorem cut_last (ys : List V) (h : 1 ≤ ys.length) : cutV ys none (some (-1)) = ys.take (ys.length - 1) := by
  unfold cutV
  rw [HT.sIx_none, List.drop_zero, Nat.sub_zero]
  congr 1
  unfold HT.sIx
  simp
  omega
theorem bent_row {hs rs : List (List Int)} {a : Nat} {op v : Int} (ha : a < rs.length) (no : ¬ OpOK op v hs.length rs.length) : ¬ CodeOK hs (rs.take a ++ [[op, v]] ++ rs.drop (a + 1)) := fun C => by
  have l : (rs.take a ++ [[op, v]] ++ rs.drop (a + 1)).length = rs.length := by rw [List.length_append, List.length_append, List.length_take, List.length_drop]; show min a rs.length + 1 + _ = _; omega
  obtain ⟨op', v', e, ok⟩ := C.rw [op, v] (List.mem_append_left _ (List.mem_append_right _ (List.mem_singleton.mpr rfl)))
  rw [l] at ok
  cases e
  exact no ok
theorem bent_head {hs rs : List (List Int)} {b : Nat} {x : List Int} (hb : b < hs.length) (no : ¬ HeadOK x b rs.length) : ¬ CodeOK (hs.take b ++ [x] ++ hs.drop (b + 1)) rs := fun C => by
  have e : (hs.take b ++ [x] ++ hs.drop (b + 1))[b]? = some x := by
    rw [List.append_assoc, List.getElem?_append_right (by rw [List.length_take]; omega), List.length_take, Nat.min_eq_left (by omega), Nat.sub_self]; rfl
  exact no (C.hd b x e)
theorem all_len {n b : Nat} {hs : List (List Int)} {x : List Int} (h : ∀ y ∈ hs, y.length = n) (hx : x.length = n) : ∀ y ∈ hs.take b ++ [x] ++ hs.drop (b + 1), y.length = n := fun y hy => by
  rcases List.mem_append.mp hy with z | z
  · rcases List.mem_append.mp z with z | z
    · exact h y (List.mem_of_mem_take z)
    · rw [List.mem_singleton.mp z]; exact hx
  · exact h y (List.mem_of_mem_drop z)
/-- no code, whatever the pen does -/
def NotB (p : Addr) (K : PySem.W.Frag) (H : Hp) (v : V) : Prop := ∀ H', But p H H' → NotC K H' v
structure OddS (K : PySem.W.Frag) (p : Addr) (H0 H : Hp) (l lo up : Addr) (xs a b : List Int) (vs : List V) : Prop where
  S : Same H0 H
  pen : Pn K PN H p
  hl : H l = some (.lst (xs.map V.int))
  lo : H lo = some (.lst (a.map V.int))
  up : H up = some (.lst (b.map V.int))
  all : ∀ v ∈ vs, NotB p K H v
section
variable {K : PySem.W.Frag} {p : Addr} {H0 H H' : Hp} {l lo up : Addr} {xs a b : List Int} {vs : List V} {v : V}
theorem NotB.same (S : Same H H') (h : NotB p K H v) : NotB p K H' v := fun H2 B => h H2 ((But.of S).trans B)
theorem OddS.step (O : OddS K p H0 H l lo up xs a b vs) (S : Same H H') (h : NotB p K H' v) : OddS K p H0 H' l lo up xs a b (vs ++ [v]) :=
  ⟨O.S.trans S, O.pen.same S, S _ _ O.hl, S _ _ O.lo, S _ _ O.up, fun x hx => by
    rcases List.mem_append.mp hx with z | z
    · exact (O.all x z).same S
    · rw [List.mem_singleton.mp z]; exact h⟩
theorem OddS.stay (O : OddS K p H0 H l lo up xs a b vs) (S : Same H H') : OddS K p H0 H' l lo up xs a b vs :=
  ⟨O.S.trans S, O.pen.same S, S _ _ O.hl, S _ _ O.lo, S _ _ O.up, fun x hx => (O.all x hx).same S⟩
theorem s_addA {p q : Addr} {xs ys : List V} {Q : VK} (h1 : H p = some (.lst xs)) (h2 : H q = some (.lst ys)) (hl : xs.length + ys.length ≤ 100000) (k : ∀ l H', H l = none → Same H H' → H' l = some (.lst (xs ++ ys)) → Q (.ref l) H') : rAddU K (.ref p) (.ref q) H Q := by
  have big : 1000000 ≤ sizeLine := by decide
  exact s_add_l h1 h2 (by omega) fun l hl => k l _ hl (same_new hl) upd_same
theorem odd_at {d : Addr} (n : d ≠ p) (h : H d = some (.lst (a.map V.int ++ [v] ++ b.map V.int))) (he : ∀ H', But p H H' → El K H' v) (hi : isI v = false) (hl : a.length + b.length ≤ 1000) : NotB p K H (.ref d) := fun H' B => by
  refine .inl (.inr (.inr ⟨d, _, rfl, SqL.of (B.rd n h), fun x hx => ?_, by simp only [List.length_append, List.length_map, List.length_cons, List.length_nil]; omega, .inr ?_⟩))
  · rcases List.mem_append.mp hx with z | z
    · rcases List.mem_append.mp z with z | z
      · obtain ⟨i, _, rfl⟩ := List.mem_map.mp z; exact El.int i
      · rw [List.mem_singleton.mp z]; exact he H' B
    · obtain ⟨i, _, rfl⟩ := List.mem_map.mp z; exact El.int i
  · rw [List.all_append, List.all_append]
    simp [hi]
theorem notc_ints {d : Addr} {ys : List Int} (n : d ≠ p) (h : H d = some (.lst (ys.map V.int))) (hl : ys.length ≤ 100000) (no : ∀ m, ¬ PartOK ys m) : NotB p K H (.ref d) := fun H' B => .inr ⟨d, ys, rfl, SqL.of (B.rd n h), hl, fun hs rs I => no _ I.part.1⟩
theorem notc_seq (h : ∀ H', But p H H' → NoSq H' v) : NotB p K H v := fun H' B => .inl (.inl (h H' B))
end
def q_Lword (Z : Adr) (a : V) (H : Hp) (Q : VK) (E : XK) : Prop := (a = .non ∧ ∀ H', Same H H' → Q (.str "told") H') ∨ (∃ p : Addr, a = .ref p ∧ H p = some (kxo p (.ref Z.c_NoCode) none) ∧ ∀ H', Same H H' → Q (.str "code") H')
/-- a row that can't be -/
def q_Lbad_row (Z : Adr) (a b c : V) (H : Hp) (Q : VK) (E : XK) : Prop := ∃ (p : Addr) (n m : Nat), a = .ref p ∧ b = .int (n : Int) ∧ c = .int (m : Int) ∧ n ≤ 1000 ∧ m ≤ 1000 ∧ Pn Z.K PN H p ∧ ∀ t op v H', But p H H' → Pn Z.K PN H' p → H' t = some (.tup [.int op, .int v]) → ¬ OpOK op v m n → Q (.ref t) H'
def q_Lbad_head (Z : Adr) (a b c d : V) (H : Hp) (Q : VK) (E : XK) : Prop := ∃ (p t : Addr) (s pp bx : Int) (i n : Nat), a = .ref p ∧ b = .ref t ∧ c = .int (i : Int) ∧ d = .int (n : Int) ∧ n ≤ 1000 ∧ Pn Z.K PN H p ∧ H t = some (.tup [.int s, .int pp, .int bx]) ∧ HeadOK [s, pp, bx] i n ∧
  ∀ t' s' p' b' H', But p H H' → Pn Z.K PN H' p → H' t' = some (.tup [.int s', .int p', .int b']) → ¬ HeadOK [s', p', b'] i n → Q (.ref t') H'
def q_Lflat (Z : Adr) (a b : V) (H : Hp) (Q : VK) (E : XK) : Prop := ∃ (la lb : Addr) (va vb : List V) (hs rs : List (List Int)), a = .ref la ∧ b = .ref lb ∧ H la = some (.lst va) ∧ H lb = some (.lst vb) ∧ TupsAt H hs va ∧ TupsAt H rs vb ∧ (∀ h ∈ hs, h.length = 3) ∧ (∀ r ∈ rs, r.length = 2) ∧ hs.length ≤ 100 ∧ rs.length ≤ 100 ∧
  ∀ l H', Same H H' → H l = none → H' l = some (.lst ((codeL hs rs).map V.int)) → Q (.ref l) H'
/-- heads and rows as lists of tuples -/
def q_Lbent (Z : Adr) (a b c : V) (H : Hp) (Q : VK) (E : XK) : Prop := ∃ (p lh lr : Addr) (vh vr : List V) (hs rs : List (List Int)), a = .ref p ∧ b = .ref lh ∧ c = .ref lr ∧ Pn Z.K PN H p ∧ lh ≠ p ∧ lr ≠ p ∧ H lh = some (.lst vh) ∧ H lr = some (.lst vr) ∧ TupsAt H hs vh ∧ TupsAt H rs vr ∧ CodeOK hs rs ∧ rs.length ≤ 24 ∧
  ∀ t la lb va vb hs' rs' H', But p H H' → Pn Z.K PN H' p → H' t = some (.tup [.ref la, .ref lb]) → H' la = some (.lst va) → H' lb = some (.lst vb) → TupsAt H' hs' va → TupsAt H' rs' vb → (∀ h ∈ hs', h.length = 3) → (∀ r ∈ rs', r.length = 2) → hs'.length ≤ 100 → rs'.length ≤ 100 → ¬ CodeOK hs' rs' → la ≠ p → lb ≠ p → Q (.ref t) H'
def q_Lodd (Z : Adr) (a b : V) (H : Hp) (Q : VK) (E : XK) : Prop := ∃ (p l : Addr) (hs rs : List (List Int)), a = .ref p ∧ b = .ref l ∧ Pn Z.K PN H p ∧ l ≠ p ∧ CodeOK hs rs ∧ rs.length ≤ 24 ∧ H l = some (.lst ((codeL hs rs).map V.int)) ∧ ∀ v H', But p H H' → Pn Z.K PN H' p → NotC Z.K H' v → Q v H'
def BadArg (K : PySem.W.Frag) (H : Hp) (a b : V) : Prop := ((NoSq H a ∧ El K H b) ∨ (El K H a ∧ NoSq H b) ∨ (∃ os qs, AnyL K H os a ∧ AnyL K H qs b ∧ os.length ≤ 100000 ∧ qs.length ≤ 100000 ∧ (os.all (goodR 3) = false ∨ qs.all (goodR 2) = false))) ∨
    ∃ hs rs, ListI K H hs a ∧ ListI K H rs b ∧ (∀ h ∈ hs, h.length = 3) ∧ (∀ r ∈ rs, r.length = 2) ∧ hs.length ≤ 100000 ∧ rs.length ≤ 100000 ∧ ¬ CodeOK hs rs
theorem AnyL.same {K : PySem.W.Frag} {H H' : Hp} {os : List (Option (List V))} {v : V} (S : Same H H') (h : AnyL K H os v) : AnyL K H' os v := by
  obtain ⟨t, vs, rfl, e, r⟩ := h
  exact ⟨t, vs, rfl, seqU_same S e, r.imp fun _ _ _ z => z.same S⟩
theorem BadArg.same {K : PySem.W.Frag} {H H' : Hp} {a b : V} (S : Same H H') (h : BadArg K H a b) : BadArg K H' a b := by
  rcases h with (⟨x, y⟩ | ⟨x, y⟩ | ⟨os, qs, x, y, z⟩) | ⟨hs, rs, x, y, z⟩
  · exact .inl (.inl ⟨x.same S, y.same S⟩)
  · exact .inl (.inr (.inl ⟨x.same S, y.same S⟩))
  · exact .inl (.inr (.inr ⟨os, qs, x.same S, y.same S, z⟩))
  · exact .inr ⟨hs, rs, x.same S, y.same S, z⟩
theorem any_tups {K : PySem.W.Frag} {H : Hp} {l : Addr} {hs : List (List Int)} {vs : List V} (h : H l = some (.lst vs)) (T : TupsAt H hs vs) (hl : ∀ x ∈ hs, x.length ≤ 1000) : AnyL K H (hs.map fun x => some (x.map V.int)) (.ref l) := by
  refine ⟨l, vs, rfl, .inl (SqL.of h), by rw [List.length_map]; exact T.len, fun i o v e1 e2 => ?_⟩
  rw [List.getElem?_map] at e1
  obtain ⟨x, ex, rfl⟩ := Option.map_eq_some_iff.mp e1
  obtain ⟨t, rfl, ht⟩ := T.2 i x v ex e2
  exact AnyR.ints ⟨t, rfl, .inr (SqT.of ht)⟩ (hl x (List.mem_of_getElem? ex))
theorem any_one {K : PySem.W.Frag} {H : Hp} {l t : Addr} {xs : List V} (h : H l = some (.lst [.ref t])) (ht : H t = some (.tup xs)) (he : ∀ x ∈ xs, El K H x) (hl : xs.length ≤ 1000) : AnyL K H [some xs] (.ref l) :=
  ⟨l, _, rfl, .inl (SqL.of h), Row.one ⟨⟨t, rfl, .inr (SqT.of ht), he⟩, hl⟩⟩
theorem any_no {K : PySem.W.Frag} {H : Hp} {l : Addr} {v : V} (h : H l = some (.lst [v])) (hn : NoSq H v) : AnyL K H [none] (.ref l) := ⟨l, _, rfl, .inl (SqL.of h), Row.one hn⟩
theorem codeL_no {hs rs : List (List Int)} (h3 : ∀ h ∈ hs, h.length = 3) (r2 : ∀ r ∈ rs, r.length = 2) (nC : ¬ CodeOK hs rs) : ∀ hs' rs', ¬ IsCode (codeL hs rs) hs' rs' := fun hs' rs' I => by
  obtain ⟨C, e⟩ := I
  unfold codeL at e
  injection e with e1 e2
  have l : hs.length = hs'.length := by omega
  have f1 := flat_sum h3
  have f2 := flat_sum C.h3
  have := List.append_inj e2 (by rw [f1, f2, l])
  have a1 := cutUp_flatten (n := 3) (by decide) h3
  have a2 := cutUp_flatten (n := 3) (by decide) C.h3
  have b1 := cutUp_flatten (n := 2) (by decide) r2
  have b2 := cutUp_flatten (n := 2) (by decide) C.r2
  rw [this.1, a2] at a1
  rw [this.2, b2] at b1
  rw [← a1, ← b1] at nC
  exact nC C
/-- a list of pairs of arguments that are refused -/
def BadPs (K : PySem.W.Frag) (H : Hp) (vs : List V) : Prop := ∀ v ∈ vs, ∃ t x y, v = .ref t ∧ H t = some (.tup [x, y]) ∧ BadArg K H x y
theorem BadPs.cons {K : PySem.W.Frag} {H : Hp} {t : Addr} {x y : V} {vs : List V} (h : H t = some (.tup [x, y])) (b : BadArg K H x y) (r : BadPs K H vs) : BadPs K H (.ref t :: vs) := fun v hv => by
  rcases List.mem_cons.mp hv with z | z
  · exact ⟨t, x, y, z, h, b⟩
  · exact r v z
theorem BadPs.nil {K : PySem.W.Frag} {H : Hp} : BadPs K H [] := fun v hv => by cases hv
def q_Ltried (Z : Adr) (a b c : V) (H : Hp) (Q : VK) (E : XK) : Prop := ∃ w : Int, a = .int w ∧ ((∃ (hs rs : List (List Int)), w = 3 ∧ ListI Z.K H hs b ∧ ListI Z.K H rs c ∧ CodeOK hs rs ∧ rs.length ≤ 24 ∧ ∀ H', Same H H' → Q (.str "told") H') ∨
  (∃ (l : Addr) (hs rs : List (List Int)), w = 2 ∧ b = .ref l ∧ SqL Z.K H l ((codeL hs rs).map V.int) ∧ CodeFig hs rs ∧ rs.length ≤ 24 ∧ ∀ H', Same H H' → Q (.str "told") H') ∨ (w = 3 ∧ BadArg Z.K H b c ∧ ∀ H', Same H H' → Q (.str "code") H') ∨ ((w = 0 ∨ w = 1 ∨ w = 2) ∧ NotC Z.K H b ∧ ∀ H', Same H H' → Q (.str "code") H'))
def q_Lrefused (Z : Adr) (a : V) (H : Hp) (Q : VK) (E : XK) : Prop := NotC Z.K H a ∧ ∀ H', Same H H' → Q (.bl true) H'
def q_law (Z : Adr) (v : V) (H : Hp) (Q : VK) (E : XK) : Prop := ∃ (a : Addr) (ns : List Int), v = .ref a ∧ Only H ∧ Scr Z.K H a ns ∧ ns.length ≤ 63 ∧ ∀ H', Q (.bl true) H'

def sp_is_whole (Z : Adr) : Sp := Sp1 (q_is_whole Z)
theorem cl_is_whole {Z : Adr} {a0 : V} {H : Hp} {Q : VK} {E : XK} (h : q_is_whole Z a0 H Q E) : sp_is_whole Z [a0] H Q E := ⟨a0, rfl, h⟩
def sp_are_wholes (Z : Adr) : Sp := Sp2 (q_are_wholes Z)
theorem cl_are_wholes {Z : Adr} {a0 a1 : V} {H : Hp} {Q : VK} {E : XK} (h : q_are_wholes Z a0 a1 H Q E) : sp_are_wholes Z [a0, a1] H Q E := ⟨a0, a1, rfl, h⟩
def sp_fits_op (Z : Adr) : Sp := Sp4 (q_fits_op Z)
theorem cl_fits_op {Z : Adr} {a0 a1 a2 a3 : V} {H : Hp} {Q : VK} {E : XK} (h : q_fits_op Z a0 a1 a2 a3 H Q E) : sp_fits_op Z [a0, a1, a2, a3] H Q E := ⟨a0, a1, a2, a3, rfl, h⟩
def sp_fits_head (Z : Adr) : Sp := Sp3 (q_fits_head Z)
theorem cl_fits_head {Z : Adr} {a0 a1 a2 : V} {H : Hp} {Q : VK} {E : XK} (h : q_fits_head Z a0 a1 a2 H Q E) : sp_fits_head Z [a0, a1, a2] H Q E := ⟨a0, a1, a2, rfl, h⟩
def sp_make_code (Z : Adr) : Sp := Sp2 (q_make_code Z)
theorem cl_make_code {Z : Adr} {a0 a1 : V} {H : Hp} {Q : VK} {E : XK} (h : q_make_code Z a0 a1 H Q E) : sp_make_code Z [a0, a1] H Q E := ⟨a0, a1, rfl, h⟩
def sp_cut_up (Z : Adr) : Sp := Sp2 (q_cut_up Z)
theorem cl_cut_up {Z : Adr} {a0 a1 : V} {H : Hp} {Q : VK} {E : XK} (h : q_cut_up Z a0 a1 H Q E) : sp_cut_up Z [a0, a1] H Q E := ⟨a0, a1, rfl, h⟩
def sp_parted_code (Z : Adr) : Sp := Sp1 (q_parted_code Z)
theorem cl_parted_code {Z : Adr} {a0 : V} {H : Hp} {Q : VK} {E : XK} (h : q_parted_code Z a0 H Q E) : sp_parted_code Z [a0] H Q E := ⟨a0, rfl, h⟩
def sp_is_code (Z : Adr) : Sp := Sp1 (q_is_code Z)
theorem cl_is_code {Z : Adr} {a0 : V} {H : Hp} {Q : VK} {E : XK} (h : q_is_code Z a0 H Q E) : sp_is_code Z [a0] H Q E := ⟨a0, rfl, h⟩
def sp_heads_of (Z : Adr) : Sp := Sp1 (q_heads_of Z)
theorem cl_heads_of {Z : Adr} {a0 : V} {H : Hp} {Q : VK} {E : XK} (h : q_heads_of Z a0 H Q E) : sp_heads_of Z [a0] H Q E := ⟨a0, rfl, h⟩
def sp_rows_of (Z : Adr) : Sp := Sp1 (q_rows_of Z)
theorem cl_rows_of {Z : Adr} {a0 : V} {H : Hp} {Q : VK} {E : XK} (h : q_rows_of Z a0 H Q E) : sp_rows_of Z [a0] H Q E := ⟨a0, rfl, h⟩
def sp_code_of (Z : Adr) : Sp := Sp2 (q_code_of Z)
theorem cl_code_of {Z : Adr} {a0 a1 : V} {H : Hp} {Q : VK} {E : XK} (h : q_code_of Z a0 a1 H Q E) : sp_code_of Z [a0, a1] H Q E := ⟨a0, a1, rfl, h⟩
def sp_summed (Z : Adr) : Sp := Sp3 (q_summed Z)
theorem cl_summed {Z : Adr} {a0 a1 a2 : V} {H : Hp} {Q : VK} {E : XK} (h : q_summed Z a0 a1 a2 H Q E) : sp_summed Z [a0, a1, a2] H Q E := ⟨a0, a1, a2, rfl, h⟩
def sp_parted_by (Z : Adr) : Sp := Sp3 (q_parted_by Z)
theorem cl_parted_by {Z : Adr} {a0 a1 a2 : V} {H : Hp} {Q : VK} {E : XK} (h : q_parted_by Z a0 a1 a2 H Q E) : sp_parted_by Z [a0, a1, a2] H Q E := ⟨a0, a1, a2, rfl, h⟩
def sp_of_numbers (Z : Adr) : Sp := Sp2 (q_of_numbers Z)
theorem cl_of_numbers {Z : Adr} {a0 a1 : V} {H : Hp} {Q : VK} {E : XK} (h : q_of_numbers Z a0 a1 H Q E) : sp_of_numbers Z [a0, a1] H Q E := ⟨a0, a1, rfl, h⟩
def sp_of_row (Z : Adr) : Sp := Sp3 (q_of_row Z)
theorem cl_of_row {Z : Adr} {a0 a1 a2 : V} {H : Hp} {Q : VK} {E : XK} (h : q_of_row Z a0 a1 a2 H Q E) : sp_of_row Z [a0, a1, a2] H Q E := ⟨a0, a1, a2, rfl, h⟩
def sp_worth (Z : Adr) : Sp := Sp3 (q_worth Z)
theorem cl_worth {Z : Adr} {a0 a1 a2 : V} {H : Hp} {Q : VK} {E : XK} (h : q_worth Z a0 a1 a2 H Q E) : sp_worth Z [a0, a1, a2] H Q E := ⟨a0, a1, a2, rfl, h⟩
def sp_parts_of (Z : Adr) : Sp := Sp1 (q_parts_of Z)
theorem cl_parts_of {Z : Adr} {a0 : V} {H : Hp} {Q : VK} {E : XK} (h : q_parts_of Z a0 H Q E) : sp_parts_of Z [a0] H Q E := ⟨a0, rfl, h⟩
def sp_Frame_init (Z : Adr) : Sp := Sp3 (q_Frame_init Z)
theorem cl_Frame_init {Z : Adr} {a0 a1 a2 : V} {H : Hp} {Q : VK} {E : XK} (h : q_Frame_init Z a0 a1 a2 H Q E) : sp_Frame_init Z [a0, a1, a2] H Q E := ⟨a0, a1, a2, rfl, h⟩
def sp_Frame_take (Z : Adr) : Sp := Sp2 (q_Frame_take Z)
theorem cl_Frame_take {Z : Adr} {a0 a1 : V} {H : Hp} {Q : VK} {E : XK} (h : q_Frame_take Z a0 a1 H Q E) : sp_Frame_take Z [a0, a1] H Q E := ⟨a0, a1, rfl, h⟩
def sp_Frame_lay (Z : Adr) : Sp := Sp2 (q_Frame_lay Z)
theorem cl_Frame_lay {Z : Adr} {a0 a1 : V} {H : Hp} {Q : VK} {E : XK} (h : q_Frame_lay Z a0 a1 H Q E) : sp_Frame_lay Z [a0, a1] H Q E := ⟨a0, a1, rfl, h⟩
def sp_Machine_init (Z : Adr) : Sp := Sp4 (q_Machine_init Z)
theorem cl_Machine_init {Z : Adr} {a0 a1 a2 a3 : V} {H : Hp} {Q : VK} {E : XK} (h : q_Machine_init Z a0 a1 a2 a3 H Q E) : sp_Machine_init Z [a0, a1, a2, a3] H Q E := ⟨a0, a1, a2, a3, rfl, h⟩
def sp_Machine_breathe (Z : Adr) : Sp := Sp1 (q_Machine_breathe Z)
theorem cl_Machine_breathe {Z : Adr} {a0 : V} {H : Hp} {Q : VK} {E : XK} (h : q_Machine_breathe Z a0 H Q E) : sp_Machine_breathe Z [a0] H Q E := ⟨a0, rfl, h⟩
def sp_Machine_begin (Z : Adr) : Sp := Sp3 (q_Machine_begin Z)
theorem cl_Machine_begin {Z : Adr} {a0 a1 a2 : V} {H : Hp} {Q : VK} {E : XK} (h : q_Machine_begin Z a0 a1 a2 H Q E) : sp_Machine_begin Z [a0, a1, a2] H Q E := ⟨a0, a1, a2, rfl, h⟩
def sp_Machine_call (Z : Adr) : Sp := Sp3 (q_Machine_call Z)
theorem cl_Machine_call {Z : Adr} {a0 a1 a2 : V} {H : Hp} {Q : VK} {E : XK} (h : q_Machine_call Z a0 a1 a2 H Q E) : sp_Machine_call Z [a0, a1, a2] H Q E := ⟨a0, a1, a2, rfl, h⟩
def sp_Machine_back (Z : Adr) : Sp := Sp2 (q_Machine_back Z)
theorem cl_Machine_back {Z : Adr} {a0 a1 : V} {H : Hp} {Q : VK} {E : XK} (h : q_Machine_back Z a0 a1 H Q E) : sp_Machine_back Z [a0, a1] H Q E := ⟨a0, a1, rfl, h⟩
def sp_Machine_fail (Z : Adr) : Sp := Sp2 (q_Machine_fail Z)
theorem cl_Machine_fail {Z : Adr} {a0 a1 : V} {H : Hp} {Q : VK} {E : XK} (h : q_Machine_fail Z a0 a1 H Q E) : sp_Machine_fail Z [a0, a1] H Q E := ⟨a0, a1, rfl, h⟩
def sp_Machine_deed (Z : Adr) : Sp := Sp3 (q_Machine_deed Z)
theorem cl_Machine_deed {Z : Adr} {a0 a1 a2 : V} {H : Hp} {Q : VK} {E : XK} (h : q_Machine_deed Z a0 a1 a2 H Q E) : sp_Machine_deed Z [a0, a1, a2] H Q E := ⟨a0, a1, a2, rfl, h⟩
def sp_Machine_boxed (Z : Adr) : Sp := Sp4 (q_Machine_boxed Z)
theorem cl_Machine_boxed {Z : Adr} {a0 a1 a2 a3 : V} {H : Hp} {Q : VK} {E : XK} (h : q_Machine_boxed Z a0 a1 a2 a3 H Q E) : sp_Machine_boxed Z [a0, a1, a2, a3] H Q E := ⟨a0, a1, a2, a3, rfl, h⟩
def sp_Machine_led (Z : Adr) : Sp := Sp4 (q_Machine_led Z)
theorem cl_Machine_led {Z : Adr} {a0 a1 a2 a3 : V} {H : Hp} {Q : VK} {E : XK} (h : q_Machine_led Z a0 a1 a2 a3 H Q E) : sp_Machine_led Z [a0, a1, a2, a3] H Q E := ⟨a0, a1, a2, a3, rfl, h⟩
def sp_Machine_plain_row (Z : Adr) : Sp := Sp4 (q_Machine_plain_row Z)
theorem cl_Machine_plain_row {Z : Adr} {a0 a1 a2 a3 : V} {H : Hp} {Q : VK} {E : XK} (h : q_Machine_plain_row Z a0 a1 a2 a3 H Q E) : sp_Machine_plain_row Z [a0, a1, a2, a3] H Q E := ⟨a0, a1, a2, a3, rfl, h⟩
def sp_Machine_step (Z : Adr) : Sp := Sp2 (q_Machine_step Z)
theorem cl_Machine_step {Z : Adr} {a0 a1 : V} {H : Hp} {Q : VK} {E : XK} (h : q_Machine_step Z a0 a1 H Q E) : sp_Machine_step Z [a0, a1] H Q E := ⟨a0, a1, rfl, h⟩
def sp_Machine_go_on (Z : Adr) : Sp := Sp2 (q_Machine_go_on Z)
theorem cl_Machine_go_on {Z : Adr} {a0 a1 : V} {H : Hp} {Q : VK} {E : XK} (h : q_Machine_go_on Z a0 a1 H Q E) : sp_Machine_go_on Z [a0, a1] H Q E := ⟨a0, a1, rfl, h⟩
def sp_go (Z : Adr) : Sp := Sp4 (q_go Z)
theorem cl_go {Z : Adr} {a0 a1 a2 a3 : V} {H : Hp} {Q : VK} {E : XK} (h : q_go Z a0 a1 a2 a3 H Q E) : sp_go Z [a0, a1, a2, a3] H Q E := ⟨a0, a1, a2, a3, rfl, h⟩
def sp_Lpen (Z : Adr) : Sp := Sp1 (q_Lpen Z)
theorem cl_Lpen {Z : Adr} {a0 : V} {H : Hp} {Q : VK} {E : XK} (h : q_Lpen Z a0 H Q E) : sp_Lpen Z [a0] H Q E := ⟨a0, rfl, h⟩
def sp_Lmixed (Z : Adr) : Sp := Sp2 (q_Lmixed Z)
theorem cl_Lmixed {Z : Adr} {a0 a1 : V} {H : Hp} {Q : VK} {E : XK} (h : q_Lmixed Z a0 a1 H Q E) : sp_Lmixed Z [a0, a1] H Q E := ⟨a0, a1, rfl, h⟩
def sp_Ltake (Z : Adr) : Sp := Sp2 (q_Ltake Z)
theorem cl_Ltake {Z : Adr} {a0 a1 : V} {H : Hp} {Q : VK} {E : XK} (h : q_Ltake Z a0 a1 H Q E) : sp_Ltake Z [a0, a1] H Q E := ⟨a0, a1, rfl, h⟩
def sp_Lnumber (Z : Adr) : Sp := Sp1 (q_Lnumber Z)
theorem cl_Lnumber {Z : Adr} {a0 : V} {H : Hp} {Q : VK} {E : XK} (h : q_Lnumber Z a0 H Q E) : sp_Lnumber Z [a0] H Q E := ⟨a0, rfl, h⟩
def sp_Lneeds (Z : Adr) : Sp := Sp3 (q_Lneeds Z)
theorem cl_Lneeds {Z : Adr} {a0 a1 a2 : V} {H : Hp} {Q : VK} {E : XK} (h : q_Lneeds Z a0 a1 a2 H Q E) : sp_Lneeds Z [a0, a1, a2] H Q E := ⟨a0, a1, a2, rfl, h⟩
def sp_Lrow (Z : Adr) : Sp := Sp4 (q_Lrow Z)
theorem cl_Lrow {Z : Adr} {a0 a1 a2 a3 : V} {H : Hp} {Q : VK} {E : XK} (h : q_Lrow Z a0 a1 a2 a3 H Q E) : sp_Lrow Z [a0, a1, a2, a3] H Q E := ⟨a0, a1, a2, a3, rfl, h⟩
def sp_Lheight (Z : Adr) : Sp := Sp4 (q_Lheight Z)
theorem cl_Lheight {Z : Adr} {a0 a1 a2 a3 : V} {H : Hp} {Q : VK} {E : XK} (h : q_Lheight Z a0 a1 a2 a3 H Q E) : sp_Lheight Z [a0, a1, a2, a3] H Q E := ⟨a0, a1, a2, a3, rfl, h⟩
def sp_Lcode (Z : Adr) : Sp := Sp1 (q_Lcode Z)
theorem cl_Lcode {Z : Adr} {a0 : V} {H : Hp} {Q : VK} {E : XK} (h : q_Lcode Z a0 H Q E) : sp_Lcode Z [a0] H Q E := ⟨a0, rfl, h⟩
def sp_Lword (Z : Adr) : Sp := Sp1 (q_Lword Z)
theorem cl_Lword {Z : Adr} {a0 : V} {H : Hp} {Q : VK} {E : XK} (h : q_Lword Z a0 H Q E) : sp_Lword Z [a0] H Q E := ⟨a0, rfl, h⟩
def sp_Lbad_row (Z : Adr) : Sp := Sp3 (q_Lbad_row Z)
theorem cl_Lbad_row {Z : Adr} {a0 a1 a2 : V} {H : Hp} {Q : VK} {E : XK} (h : q_Lbad_row Z a0 a1 a2 H Q E) : sp_Lbad_row Z [a0, a1, a2] H Q E := ⟨a0, a1, a2, rfl, h⟩
def sp_Lbad_head (Z : Adr) : Sp := Sp4 (q_Lbad_head Z)
theorem cl_Lbad_head {Z : Adr} {a0 a1 a2 a3 : V} {H : Hp} {Q : VK} {E : XK} (h : q_Lbad_head Z a0 a1 a2 a3 H Q E) : sp_Lbad_head Z [a0, a1, a2, a3] H Q E := ⟨a0, a1, a2, a3, rfl, h⟩
def sp_Lflat (Z : Adr) : Sp := Sp2 (q_Lflat Z)
theorem cl_Lflat {Z : Adr} {a0 a1 : V} {H : Hp} {Q : VK} {E : XK} (h : q_Lflat Z a0 a1 H Q E) : sp_Lflat Z [a0, a1] H Q E := ⟨a0, a1, rfl, h⟩
def sp_Lbent (Z : Adr) : Sp := Sp3 (q_Lbent Z)
theorem cl_Lbent {Z : Adr} {a0 a1 a2 : V} {H : Hp} {Q : VK} {E : XK} (h : q_Lbent Z a0 a1 a2 H Q E) : sp_Lbent Z [a0, a1, a2] H Q E := ⟨a0, a1, a2, rfl, h⟩
def sp_Lodd (Z : Adr) : Sp := Sp2 (q_Lodd Z)
theorem cl_Lodd {Z : Adr} {a0 a1 : V} {H : Hp} {Q : VK} {E : XK} (h : q_Lodd Z a0 a1 H Q E) : sp_Lodd Z [a0, a1] H Q E := ⟨a0, a1, rfl, h⟩
def sp_Ltried (Z : Adr) : Sp := Sp3 (q_Ltried Z)
theorem cl_Ltried {Z : Adr} {a0 a1 a2 : V} {H : Hp} {Q : VK} {E : XK} (h : q_Ltried Z a0 a1 a2 H Q E) : sp_Ltried Z [a0, a1, a2] H Q E := ⟨a0, a1, a2, rfl, h⟩
def sp_Lrefused (Z : Adr) : Sp := Sp1 (q_Lrefused Z)
theorem cl_Lrefused {Z : Adr} {a0 : V} {H : Hp} {Q : VK} {E : XK} (h : q_Lrefused Z a0 H Q E) : sp_Lrefused Z [a0] H Q E := ⟨a0, rfl, h⟩
def sp_law (Z : Adr) : Sp := Sp1 (q_law Z)
theorem cl_law {Z : Adr} {a0 : V} {H : Hp} {Q : VK} {E : XK} (h : q_law Z a0 H Q E) : sp_law Z [a0] H Q E := ⟨a0, rfl, h⟩
theorem c_take {Z : Adr} {H : Hp} {Q : VK} {E : XK} {p : Addr} {m : Int} (hm : 0 < m ∧ m < 10 ^ 70) (hp : Pn Z.K PN H p) (q : ∀ v H', 0 ≤ v → v < m → Pn Z.K PN H' p → But p H H' → Q (.int v) H') : sp_Ltake Z [.ref p, .int m] H Q E :=
  cl_Ltake ⟨p, m, rfl, rfl, hm.1, hm.2, hp, q⟩

section
variable {Z : Adr} {H0 H H' : Hp} {G : Addr → Option Tg} {A : MA} {hs rs hp : List (List Int)} {br : Int} {f : Fm} {fs : List Fm} {x : FA} {Q : VK} {E : XK} {p a : Addr} {L : List Fm}
def Kept (G : Addr → Option Tg) (H H' : Hp) : Prop := ∀ l o, G l = none → H l = some o → H' l = some o
theorem kept_of {q : Addr} {t : Tg} (g : G q = some t) (B : But q H H') : Kept G H H' := fun l o gl e => B.rd (fun z => by rw [z, g] at gl; cases gl) e
theorem MachAt.at_ (M : MachAt Z H0 H G A hs rs hp br (f :: fs).reverse) (hx : A.fa[fs.length]? = some x) : FrAt Z H x f := M.frs.fr _ _ _ hx rev_at
theorem MachAt.ato (M : MachAt Z H0 H G A hs rs hp br (f :: fs).reverse) (hx : A.fa[fs.length]? = some x) (ea : x.a = a) : H a = some (.ins Z.c_Frame x.dx (fs_Frame (.int f.at_) (.ref x.lb) (.ref x.lv))) := ea ▸ (M.at_ hx).o
theorem MachAt.po (M : MachAt Z H0 H G A hs rs hp br L) (ep : A.p = p) : H p = some (.ins Z.c_Machine A.dx (fs_Machine (.ref A.lh) (.ref A.lr) (.ref A.lo) (.int br) (.ref A.lf) (.int 0))) := ep ▸ M.o
theorem MachAt.end_ (M : MachAt Z H0 H G A hs rs hp br L) (ep : A.p = p) : EndAt Z H0 H p 0 hp := ep ▸ M.fin
theorem MachAt.endn {n : Int} (M : MachAt Z H0 H G A hs rs hp br L) (ep : A.p = p) (B : But p H H') {v1 v2 v4 v5 : V} (e : H' p = some (.ins Z.c_Machine A.dx (fs_Machine v1 v2 (.ref A.lo) v4 v5 (.int n)))) : EndAt Z H0 H' p n hp := by
  subst ep
  refine ⟨M.mutS M.gp B, _, _, _, _, _, _, A.as, e, ?_⟩
  exact M.heap.keep fun b xs z e => by
    rcases z with z | z
    · rw [z] at e ⊢; exact B.rd (tag_ne M.go M.gp (by intro z; cases z)) e
    · exact B.rd (tag_ne (M.ga b z) M.gp (by intro z; cases z)) e
theorem c_ftake (M : MachAt Z H0 H G A hs rs hp br (f :: fs).reverse) (hx : A.fa[fs.length]? = some x) (ea : x.a = a) {k : Nat} (q1 : f.vs.length < k → Q .non H)
    (q2 : k ≤ f.vs.length → ∀ l x' A' H' G', x'.a = a → A'.p = A.p → MachAt Z H0 H' G' A' hs rs hp br (f.less k :: fs).reverse → A'.fa[fs.length]? = some x' → A'.fa.length = A.fa.length → H' l = some (.lst ((f.top k).map V.int)) → G' l = none → H l = none → Q (.ref l) H') :
    sp_Frame_take Z [.ref a, .int (k : Int)] H Q E := by
  subst ea
  have F := M.at_ hx
  obtain ⟨g1, g2, g3⟩ := M.frs.g _ _ hx
  refine cl_Frame_take ⟨x.a, x.dx, _, _, x.lv, f.vs, k, rfl, rfl, F.o, F.v, q1, fun hk l lv' H' B hl hlv hne el elv eo => ?_⟩
  have hi := (List.getElem?_eq_some_iff.mp hx).1
  have fl := M.free hl
  have flv := M.free hlv
  refine q2 hk l ⟨x.a, x.dx, x.lb, lv'⟩ { A with fa := A.fa.set fs.length ⟨x.a, x.dx, x.lb, lv'⟩ } H' (updG G lv' (.vs fs.length)) rfl rfl ?_ (List.getElem?_set_self hi) (by rw [List.length_set]) el (by rw [updG_ne hne]; exact fl) hl
  have := M.frame (G' := updG G lv' (.vs fs.length)) (x' := ⟨x.a, x.dx, x.lb, lv'⟩) (f' := f.less k) hx g1 (.inl rfl) B eo (fun ys z => by rw [F.o] at z; cases z)
    (fun a s g => by rw [updG_ne (fun z => by rw [z, flv] at g; cases g)]; exact g)
    (fun a s g => by
      by_cases c : a = lv'
      · exact .inr ⟨by rw [c]; exact M.S.free hlv, by rw [c, elv]; exact fun z => by cases z⟩
      · rw [updG_ne c] at g; exact .inl g) rfl
    ⟨eo, B.rd (tag_ne g2 g1 (by intro z; cases z)) F.b, elv⟩
    ⟨by rw [updG_ne (fun z => by rw [← z] at flv; rw [show (FA.mk x.a x.dx x.lb lv').a = x.a from rfl, g1] at flv; cases flv)]; exact g1, by rw [updG_ne (fun z => by rw [← z] at flv; rw [show (FA.mk x.a x.dx x.lb lv').lb = x.lb from rfl, g2] at flv; cases flv)]; exact g2, updG_same⟩
  rw [rev_set] at this
  exact this
theorem c_flay (M : MachAt Z H0 H G A hs rs hp br (f :: fs).reverse) (hx : A.fa[fs.length]? = some x) (ea : x.a = a) {v : Int} (hn : f.vs.length < 10000000) (q : ∀ H', MachAt Z H0 H' G A hs rs hp br (f.lay v :: fs).reverse → Kept G H H' → Q .non H') : sp_Frame_lay Z [.ref a, .int v] H Q E := by
  subst ea
  have F := M.at_ hx
  obtain ⟨g1, g2, g3⟩ := M.frs.g _ _ hx
  refine cl_Frame_lay ⟨x.a, x.dx, _, _, x.lv, _, rfl, F.o, F.v, by rw [List.length_map]; omega, fun H' B e => q H' ?_ (kept_of g3 B)⟩
  have := M.frame (G' := G) (x' := x) (f' := f.lay v) hx g3 (.inr (.inr rfl)) B e (fun ys z => by rw [F.v] at z; cases z) (fun _ _ g => g) (fun _ _ g => .inl g) rfl
    ⟨B.rd (tag_ne g1 g3 (by intro z; cases z)) F.o, B.rd (tag_ne g2 g3 (by intro z; cases z)) F.b, by rw [e]; show _ = some (HO.lst ((f.vs ++ [v]).map V.int)); rw [List.map_append]; rfl⟩ ⟨g1, g2, g3⟩
  rw [rev_set, set_self hx] at this
  exact this
theorem c_fat (T : Top Z) (M : MachAt Z H0 H G A hs rs hp br (f :: fs).reverse) (hx : A.fa[fs.length]? = some x) (ea : x.a = a) {n : Nat} {N1 : Hp → Prop} (q : ∀ H', MachAt Z H0 H' G A hs rs hp br (f.go n :: fs).reverse → Kept G H H' → N1 H') : zPutF Z.K (.ref a) "at" (.int (n : Int)) H N1 := by
  subst ea
  have F := M.at_ hx
  obtain ⟨g1, g2, g3⟩ := M.frs.g _ _ hx
  refine fp_Frame_at T F.o fun H' B e => q H' ?_ (kept_of g1 B)
  have := M.frame (G' := G) (x' := x) (f' := f.go n) hx g1 (.inl rfl) B e (fun ys z => by rw [F.o] at z; cases z) (fun _ _ g => g) (fun _ _ g => .inl g) rfl
    ⟨e, B.rd (tag_ne g2 g1 (by intro z; cases z)) F.b, B.rd (tag_ne g3 g1 (by intro z; cases z)) F.v⟩ ⟨g1, g2, g3⟩
  rw [rev_set, set_self hx] at this
  exact this
theorem c_fbox (M : MachAt Z H0 H G A hs rs hp br (f :: fs).reverse) (hx : A.fa[fs.length]? = some x) {n : Nat} {v : Int} {N1 : Hp → Prop} (hn : n < f.bx.length) (q : ∀ H', MachAt Z H0 H' G A hs rs hp br ({ f with bx := f.bx.set n v } :: fs).reverse → Kept G H H' → N1 H') : rSetL (.ref x.lb) (.int (n : Int)) (.int v) H N1 := by
  have F := M.at_ hx
  obtain ⟨g1, g2, g3⟩ := M.frs.g _ _ hx
  refine c_setL n ((f.bx.set n v).map V.int) F.b (ixN_nat (by rw [List.length_map]; exact hn)) (by rw [List.map_set]) fun H' B e => q H' ?_ (kept_of g2 B)
  have := M.frame (G' := G) (x' := x) (f' := { f with bx := f.bx.set n v }) hx g2 (.inr (.inl rfl)) B e (fun ys z => by rw [F.b] at z; cases z) (fun _ _ g => g) (fun _ _ g => .inl g) rfl
    ⟨B.rd (tag_ne g1 g2 (by intro z; cases z)) F.o, e, B.rd (tag_ne g3 g2 (by intro z; cases z)) F.v⟩ ⟨g1, g2, g3⟩
  rw [rev_set, set_self hx] at this
  exact this
theorem c_breathe (M : MachAt Z H0 H G A hs rs hp br L) (ep : A.p = p) (q1 : br < 1 → Q (.str "breath") H) (q2 : 1 ≤ br → ∀ H', MachAt Z H0 H' G A hs rs hp (br - 1) L → Kept G H H' → Q .non H') : sp_Machine_breathe Z [.ref p] H Q E := by
  subst ep
  exact cl_Machine_breathe ⟨A.p, A.dx, _, _, _, _, _, br, rfl, M.o, q1, fun hb H' B e => q2 hb H' (M.breath B e) (kept_of M.gp B)⟩
end

def t_is_whole (Z : Adr) (W : WX) : TS := (tRet (tAndV (tCB (rIsi2 Z.K) (tCons (tVar 0) (tCons (tC (.ty "int")) tNil))) (tNotV (tCB (rIsi2 Z.K) (tCons (tVar 0) (tCons (tC (.ty "bool")) tNil))))))
def t_are_wholes (Z : Adr) (W : WX) : TS := (tSeq (tIfS (tOr (tNot (tB (tCB (rIsi2 Z.K) (tCons (tVar 0) (tCons (tTup (tCons (tC (.ty "list")) (tCons (tC (.ty "tuple")) tNil))) tNil))))) (tTest (tOp (rNeU Z.K) (tCB (rLen Z.K) (tCons (tVar 0) tNil)) (tVar 1)))) (tRet (tC (.bl false))) tNext)
    (tRet (tCB (rAll Z.K) (tCons (tLc (iUn Z.K (tVar 0)) (gName 3) tYes (tCallS (sp_is_whole Z) (WE fun _ _ _ _ => False) (tCons (tVar 3) tNil)) [2, 3]) tNil))))
def t_fits_op (Z : Adr) (W : WX) : TS := (tSeq (tIfS (tTest (tOp (rEqU Z.K) (tVar 0) (tC (.int 0)))) (tRet (tC (.bl true))) tNext)
    (tSeq (tIfS (tTest (tOp (rIn Z.K false) (tVar 0) (tTup (tCons (tC (.int 1)) (tCons (tC (.int 2)) tNil))))) (tRet (tChain (rI0 fun i j => .bl (decide (i ≤ j))) (rI0 fun i j => .bl (decide (i < j))) (tC (.int 0)) (tVar 1) (tC (.int 12)))) tNext)
    (tSeq (tIfS (tTest (tOp (rIn Z.K false) (tVar 0) (tTup (tCons (tC (.int 4)) (tCons (tC (.int 5)) tNil))))) (tRet (tChain (rI0 fun i j => .bl (decide (i ≤ j))) (rI0 fun i j => .bl (decide (i < j))) (tC (.int 0)) (tVar 1) (tVar 3))) tNext)
    (tSeq (tIfS (tTest (tOp (rEqU Z.K) (tVar 0) (tC (.int 6)))) (tRet (tChain (rI0 fun i j => .bl (decide (i ≤ j))) (rI0 fun i j => .bl (decide (i < j))) (tC (.int 0)) (tVar 1) (tVar 2))) tNext)
    (tSeq (tIfS (tTest (tOp (rIn Z.K false) (tVar 0) (tTup (tCons (tC (.int 3)) (tCons (tC (.int 7)) (tCons (tC (.int 8)) (tCons (tC (.int 9)) tNil))))))) (tRet (tOp (rEqU Z.K) (tVar 1) (tC (.int 0)))) tNext)
    (tSeq (tIfS (tTest (tOp (rEqU Z.K) (tVar 0) (tC (.int 10)))) (tRet (tChain (rI0 fun i j => .bl (decide (i ≤ j))) (rI0 fun i j => .bl (decide (i ≤ j))) (tC (.int 8)) (tVar 1) (tC (.int 19)))) tNext)
    (tRet (tAndV (tOp (rEqU Z.K) (tVar 0) (tC (.int 11))) (tChain (rI0 fun i j => .bl (decide (i ≤ j))) (rI0 fun i j => .bl (decide (i ≤ j))) (tC (.int 2)) (tVar 1) (tC (.int 12)))))))))))
def t_fits_head (Z : Adr) (W : WX) : TS := (tSeq (tAsg (tVar 0) (gUn Z.K 3 (gCons (gName 3) (gCons (gName 4) (gCons (gName 5) gNil)))))
    (tSeq (tIfS (tOr (tNot (tTest (tChain (rI0 fun i j => .bl (decide (i ≤ j))) (rI0 fun i j => .bl (decide (i < j))) (tC (.int 0)) (tVar 3) (tVar 2)))) (tNot (tTest (tChain (rI0 fun i j => .bl (decide (i ≤ j))) (rI0 fun i j => .bl (decide (i ≤ j))) (tC (.int 0)) (tVar 4) (tOp rMul (tC (.int 4)) (tCB rInt1 (tCons (tOp (rI0 fun i j => .bl (decide (j < i))) (tVar 1) (tC (.int 0))) tNil))))))) (tRet (tC (.bl false))) tNext)
    (tRet (tChain (rI0 fun i j => .bl (decide (i ≤ j))) (rI0 fun i j => .bl (decide (i ≤ j))) (tVar 4) (tVar 5) (tC (.int 12))))))
def t_make_code (Z : Adr) (W : WX) : TS := (tSeq (tIfS (tOr (tNot (tTest (tChain (rI0 fun i j => .bl (decide (i ≤ j))) (rI0 fun i j => .bl (decide (i ≤ j))) (tC (.int 1)) (tCB (rLen Z.K) (tCons (tVar 0) tNil)) (tC (.int 16))))) (tTest (tOp (rI0 fun i j => .bl (decide (i < j))) (tCB (rLen Z.K) (tCons (tVar 1) tNil)) (tC (.int 1))))) (tRet (tC (.bl false))) tNext)
    (tSeq (tFor (iRng1 (tCons (tCB (rLen Z.K) (tCons (tVar 0) tNil)) tNil)) (gName 2) (tIfS (tNot (tB (tCallS (sp_fits_head Z) (WE W) (tCons (tOp (rIx Z.K) (tVar 0) (tVar 2)) (tCons (tVar 2) (tCons (tCB (rLen Z.K) (tCons (tVar 1) tNil)) tNil)))))) (tRet (tC (.bl false))) tNext))
    (tSeq (tFor (iUn Z.K (tVar 1)) (gUn Z.K 2 (gCons (gName 3) (gCons (gName 4) gNil))) (tIfS (tNot (tB (tCallS (sp_fits_op Z) (WE W) (tCons (tVar 3) (tCons (tVar 4) (tCons (tCB (rLen Z.K) (tCons (tVar 0) tNil)) (tCons (tCB (rLen Z.K) (tCons (tVar 1) tNil)) tNil))))))) (tRet (tC (.bl false))) tNext))
    (tRet (tC (.bl true))))))
def t_cut_up (Z : Adr) (W : WX) : TS := (tSeq (tAsg (tLst tNil) (gName 2))
    (tSeq (tFor (iRng1 (tCons (tOp rFdv (tCB (rLen Z.K) (tCons (tVar 0) tNil)) (tVar 1)) tNil)) (gName 3) (tDrop (tBM Z.K "list" rAppend (tVar 2) (tCons (tCB (rTupOf Z.K) (tCons (tSl (rSlU Z.K) (tVar 0) (tPart (tOp rMul (tVar 3) (tVar 1))) (tPart (tOp (rAddU Z.K) (tOp rMul (tVar 3) (tVar 1)) (tVar 1)))) tNil)) tNil))))
    (tRet (tVar 2))))
def t_parted_code (Z : Adr) (W : WX) : TS := (tSeq (tIfS (tOr (tNot (tB (tCB (rIsi2 Z.K) (tCons (tVar 0) (tCons (tC (.ty "list")) tNil))))) (tOr (tTest (tOp (rEqU Z.K) (tCB (rLen Z.K) (tCons (tVar 0) tNil)) (tC (.int 0)))) (tNot (tB (tCallS (sp_are_wholes Z) (WE W) (tCons (tVar 0) (tCons (tCB (rLen Z.K) (tCons (tVar 0) tNil)) tNil))))))) (sRaiseN Z.c_NoCode W) tNext)
    (tSeq (tAsg (tOp (rIx Z.K) (tVar 0) (tC (.int 0))) (gName 1))
    (tSeq (tIfS (tOr (tNot (tTest (tChain (rI0 fun i j => .bl (decide (i ≤ j))) (rI0 fun i j => .bl (decide (i ≤ j))) (tC (.int 1)) (tVar 1) (tC (.int 16))))) (tOr (tTest (tOp (rI0 fun i j => .bl (decide (i < j))) (tCB (rLen Z.K) (tCons (tVar 0) tNil)) (tOp (rAddU Z.K) (tOp rMul (tC (.int 3)) (tVar 1)) (tC (.int 1))))) (tTest (tOp (rEqU Z.K) (tOp rMod (tOp (rI0 fun i j => .int (i - j)) (tCB (rLen Z.K) (tCons (tVar 0) tNil)) (tOp rMul (tC (.int 3)) (tVar 1))) (tC (.int 2))) (tC (.int 0)))))) (sRaiseN Z.c_NoCode W) tNext)
    (tSeq (tAsg (tCallS (sp_cut_up Z) (WE W) (tCons (tSl (rSlU Z.K) (tVar 0) (tPart (tC (.int 1))) (tPart (tOp (rAddU Z.K) (tOp rMul (tC (.int 3)) (tVar 1)) (tC (.int 1))))) (tCons (tC (.int 3)) tNil))) (gName 2))
    (tSeq (tAsg (tCallS (sp_cut_up Z) (WE W) (tCons (tSl (rSlU Z.K) (tVar 0) (tPart (tOp (rAddU Z.K) (tOp rMul (tC (.int 3)) (tVar 1)) (tC (.int 1)))) tNoPart) (tCons (tC (.int 2)) tNil))) (gName 3))
    (tSeq (tIfS (tNot (tB (tCallS (sp_make_code Z) (WE W) (tCons (tVar 2) (tCons (tVar 3) tNil))))) (sRaiseN Z.c_NoCode W) tNext)
    (tRet (tTup (tCons (tVar 2) (tCons (tVar 3) tNil))))))))))
def t_is_code (Z : Adr) (W : WX) : TS := (tSeq (tAsg (tC (.bl true)) (gName 1))
    (tSeq (sTryOnly Z.K (.ref Z.c_NoCode) (fun W => (tDrop (tCallS (sp_parted_code Z) (WE W) (tCons (tVar 0) tNil)))) (fun a cls d => (tAsg (tC (.bl false)) (gName 1))) W)
    (tRet (tVar 1))))
def t_heads_of (Z : Adr) (W : WX) : TS := (tRet (tOp (rIx Z.K) (tCallS (sp_parted_code Z) (WE W) (tCons (tVar 0) tNil)) (tC (.int 0))))
def t_rows_of (Z : Adr) (W : WX) : TS := (tRet (tOp (rIx Z.K) (tCallS (sp_parted_code Z) (WE W) (tCons (tVar 0) tNil)) (tC (.int 1))))
def t_code_of (Z : Adr) (W : WX) : TS := (tSeq (tIfS (tOr (tNot (tB (tCB (rIsi2 Z.K) (tCons (tVar 0) (tCons (tTup (tCons (tC (.ty "list")) (tCons (tC (.ty "tuple")) tNil))) tNil))))) (tNot (tB (tCB (rIsi2 Z.K) (tCons (tVar 1) (tCons (tTup (tCons (tC (.ty "list")) (tCons (tC (.ty "tuple")) tNil))) tNil)))))) (sRaiseN Z.c_NoCode W) tNext)
    (tSeq (tIfS (tOr (tNot (tB (tCB (rAll Z.K) (tCons (tLc (iUn Z.K (tVar 0)) (gName 2) tYes (tCallS (sp_are_wholes Z) (WE fun _ _ _ _ => False) (tCons (tVar 2) (tCons (tC (.int 3)) tNil))) [5, 2]) tNil)))) (tNot (tB (tCB (rAll Z.K) (tCons (tLc (iUn Z.K (tVar 1)) (gName 3) tYes (tCallS (sp_are_wholes Z) (WE fun _ _ _ _ => False) (tCons (tVar 3) (tCons (tC (.int 2)) tNil))) [5, 3]) tNil))))) (sRaiseN Z.c_NoCode W) tNext)
    (tSeq (tIfS (tNot (tB (tCallS (sp_make_code Z) (WE W) (tCons (tVar 0) (tCons (tVar 1) tNil))))) (sRaiseN Z.c_NoCode W) tNext)
    (tSeq (tAsg (tLst (tCons (tCB (rLen Z.K) (tCons (tVar 0) tNil)) tNil)) (gName 4))
    (tSeq (tFor (iUn Z.K (tVar 0)) (gName 2) (tDrop (tBM Z.K "list" rExtend (tVar 4) (tCons (tCB (rListOf Z.K) (tCons (tVar 2) tNil)) tNil))))
    (tSeq (tFor (iUn Z.K (tVar 1)) (gName 3) (tDrop (tBM Z.K "list" rExtend (tVar 4) (tCons (tCB (rListOf Z.K) (tCons (tVar 3) tNil)) tNil))))
    (tRet (tVar 4))))))))
def t_summed (Z : Adr) (W : WX) : TS := (C8.tCut (tIfS (tTest (tOp (rEqU Z.K) (tVar 0) (tC (.int 8)))) (tAsg (tOp (rAddU Z.K) (tVar 1) (tVar 2)) (gName 3)) (tIfS (tTest (tOp (rEqU Z.K) (tVar 0) (tC (.int 9)))) (tAsg (tOp (rI0 fun i j => .int (i - j)) (tVar 1) (tVar 2)) (gName 3)) (tAsg (tOp rMul (tVar 1) (tVar 2)) (gName 3))))
    (tSeq (tIfS (tTest (tOp (rI0 fun i j => .bl (decide (j < i))) (tCB (rLen Z.K) (tCons (tCB rStrI (tCons (tCB rAbs (tCons (tVar 3) tNil)) tNil)) tNil)) (tC (.int 100)))) (tRet (tTup (tCons (tC (.str "great")) (tCons (tC (.int 0)) tNil)))) tNext)
    (tRet (tTup (tCons (tC .non) (tCons (tVar 3) tNil))))))
def t_parted_by (Z : Adr) (W : WX) : TS := (tSeq (tIfS (tTest (tOp (rEqU Z.K) (tVar 2) (tC (.int 0)))) (tRet (tTup (tCons (tC (.str "zero")) (tCons (tC (.int 0)) tNil)))) tNext)
    (tSeq (tIfS (tTest (tOp (rEqU Z.K) (tVar 0) (tC (.int 11)))) (tRet (tTup (tCons (tC .non) (tCons (tOp rFdv (tVar 1) (tVar 2)) tNil)))) tNext)
    (tRet (tTup (tCons (tC .non) (tCons (tOp rMod (tVar 1) (tVar 2)) tNil))))))
def t_of_numbers (Z : Adr) (W : WX) : TS := (tSeq (tAsg (tVar 1) (gUn Z.K 2 (gCons (gName 2) (gCons (gName 3) gNil))))
    (tSeq (tIfS (tTest (tOp (rIn Z.K false) (tVar 0) (tTup (tCons (tC (.int 8)) (tCons (tC (.int 9)) (tCons (tC (.int 10)) tNil)))))) (tRet (tCallS (sp_summed Z) (WE W) (tCons (tVar 0) (tCons (tVar 2) (tCons (tVar 3) tNil))))) tNext)
    (tSeq (tIfS (tTest (tOp (rIn Z.K false) (tVar 0) (tTup (tCons (tC (.int 11)) (tCons (tC (.int 12)) tNil))))) (tRet (tCallS (sp_parted_by Z) (WE W) (tCons (tVar 0) (tCons (tVar 2) (tCons (tVar 3) tNil))))) tNext)
    (tSeq (tIfS (tTest (tOp (rEqU Z.K) (tVar 0) (tC (.int 13)))) (tRet (tTup (tCons (tC .non) (tCons (tCB rInt1 (tCons (tOp (rI0 fun i j => .bl (decide (i < j))) (tVar 2) (tVar 3)) tNil)) tNil)))) tNext)
    (tRet (tTup (tCons (tC .non) (tCons (tCB rInt1 (tCons (tOp (rEqU Z.K) (tVar 2) (tVar 3)) tNil)) tNil))))))))
def t_of_row (Z : Adr) (W : WX) : TS := (tSeq (tIfS (tTest (tOp (rEqU Z.K) (tVar 0) (tC (.int 18)))) (tRet (tTup (tCons (tC .non) (tCons (tCB (rLen Z.K) (tCons (tVar 2) tNil)) tNil)))) tNext)
    (tSeq (tIfS (tTest (tOp (rEqU Z.K) (tVar 0) (tC (.int 15)))) (tSeq (tDrop (tBM Z.K "list" rAppend (tVar 2) (tCons (tOp (rIx Z.K) (tVar 1) (tC (.int 1))) tNil)))
    (tRet (tTup (tCons (tC .non) (tCons (tOp (rIx Z.K) (tVar 1) (tC (.int 1))) tNil))))) tNext)
    (tSeq (tIfS (tNot (tTest (tChain (rI0 fun i j => .bl (decide (i ≤ j))) (rI0 fun i j => .bl (decide (i < j))) (tC (.int 0)) (tOp (rIx Z.K) (tVar 1) (tC (.int 1))) (tCB (rLen Z.K) (tCons (tVar 2) tNil))))) (tRet (tTup (tCons (tC (.str "place")) (tCons (tC (.int 0)) tNil)))) tNext)
    (tSeq (tIfS (tTest (tOp (rEqU Z.K) (tVar 0) (tC (.int 16)))) (tRet (tTup (tCons (tC .non) (tCons (tOp (rIx Z.K) (tVar 2) (tOp (rIx Z.K) (tVar 1) (tC (.int 1)))) tNil)))) tNext)
    (tSeq (tAsg (tOp (rIx Z.K) (tVar 1) (tC (.int 2))) (gSub (tVar 2) (tOp (rIx Z.K) (tVar 1) (tC (.int 1))) rSetL))
    (tRet (tTup (tCons (tC .non) (tCons (tOp (rIx Z.K) (tVar 1) (tC (.int 2))) tNil)))))))))
def t_worth (Z : Adr) (W : WX) : TS := (tSeq (tIfS (tTest (tOp (rI0 fun i j => .bl (decide (i ≤ j))) (tVar 0) (tC (.int 14)))) (tRet (tCallS (sp_of_numbers Z) (WE W) (tCons (tVar 0) (tCons (tVar 1) tNil)))) tNext)
    (tSeq (tIfS (tTest (tOp (rI0 fun i j => .bl (decide (j < i))) (tVar 0) (tC (.int 18)))) (tSeq (tDrop (tBM Z.K "list" rAppend (tVar 2) (tCons (tLst tNil) tNil)))
    (tRet (tTup (tCons (tC .non) (tCons (tOp (rI0 fun i j => .int (i - j)) (tCB (rLen Z.K) (tCons (tVar 2) tNil)) (tC (.int 1))) tNil))))) tNext)
    (tSeq (tIfS (tNot (tTest (tChain (rI0 fun i j => .bl (decide (i ≤ j))) (rI0 fun i j => .bl (decide (i < j))) (tC (.int 0)) (tOp (rIx Z.K) (tVar 1) (tC (.int 0))) (tCB (rLen Z.K) (tCons (tVar 2) tNil))))) (tRet (tTup (tCons (tC (.str "row")) (tCons (tC (.int 0)) tNil)))) tNext)
    (tRet (tCallS (sp_of_row Z) (WE W) (tCons (tVar 0) (tCons (tVar 1) (tCons (tOp (rIx Z.K) (tVar 2) (tOp (rIx Z.K) (tVar 1) (tC (.int 0)))) tNil))))))))
def t_parts_of (Z : Adr) (W : WX) : TS := (tSeq (tIfS (tTest (tOp (rEqU Z.K) (tVar 0) (tC (.int 19)))) (tRet (tC (.int 0))) tNext)
    (tSeq (tIfS (tTest (tOp (rIn Z.K false) (tVar 0) (tTup (tCons (tC (.int 7)) (tCons (tC (.int 18)) tNil))))) (tRet (tC (.int 1))) tNext)
    (tSeq (tIfS (tTest (tOp (rEqU Z.K) (tVar 0) (tC (.int 17)))) (tRet (tC (.int 3))) tNext)
    (tRet (tC (.int 2))))))
def t_Frame_init (Z : Adr) (W : WX) : TS := (tSeq (sFld Z.K (tVar 0) (tVar 1) "at")
    (tSeq (sFld Z.K (tVar 0) (tVar 2) "boxes")
    (sFld Z.K (tVar 0) (tLst tNil) "values_there")))
def t_Frame_take (Z : Adr) (W : WX) : TS := (tSeq (tAsg (tOp (rI0 fun i j => .int (i - j)) (tCB (rLen Z.K) (tCons (tFld Z.K (tVar 0) "values_there") tNil)) (tVar 1)) (gName 2))
    (tSeq (tIfS (tTest (tOp (rI0 fun i j => .bl (decide (i < j))) (tVar 2) (tC (.int 0)))) (tRet (tC .non)) tNext)
    (tSeq (tAsg (tSl (rSlU Z.K) (tFld Z.K (tVar 0) "values_there") (tPart (tVar 2)) tNoPart) (gName 3))
    (tSeq (sFld Z.K (tVar 0) (tSl (rSlU Z.K) (tFld Z.K (tVar 0) "values_there") tNoPart (tPart (tVar 2))) "values_there")
    (tRet (tVar 3))))))
def t_Frame_lay (Z : Adr) (W : WX) : TS := (tDrop (tBM Z.K "list" rAppend (tFld Z.K (tVar 0) "values_there") (tCons (tVar 1) tNil)))
def t_Machine_init (Z : Adr) (W : WX) : TS := (tSeq (sFld Z.K (tVar 0) (tCallS (sp_heads_of Z) (WE W) (tCons (tVar 1) tNil)) "heads")
    (tSeq (sFld Z.K (tVar 0) (tCallS (sp_rows_of Z) (WE W) (tCons (tVar 1) tNil)) "code_rows")
    (tSeq (sFld Z.K (tVar 0) (tLst (tCons (tCB (rListOf Z.K) (tCons (tVar 2) tNil)) (tCons (tLst tNil) tNil))) "heap")
    (tSeq (sFld Z.K (tVar 0) (tVar 3) "breaths")
    (tSeq (sFld Z.K (tVar 0) (tLst tNil) "frames")
    (sFld Z.K (tVar 0) (tC (.int 0)) "number"))))))
def t_Machine_breathe (Z : Adr) (W : WX) : TS := (tSeq (tIfS (tTest (tOp (rI0 fun i j => .bl (decide (i < j))) (tFld Z.K (tVar 0) "breaths") (tC (.int 1)))) (tRet (tC (.str "breath"))) tNext)
    (tSeq (sFld Z.K (tVar 0) (tOp (rI0 fun i j => .int (i - j)) (tFld Z.K (tVar 0) "breaths") (tC (.int 1))) "breaths")
    (tRet (tC .non))))
def t_Machine_begin (Z : Adr) (W : WX) : TS := (tSeq (tAsg (tOp (rIx Z.K) (tFld Z.K (tVar 0) "heads") (tVar 1)) (gUn Z.K 3 (gCons (gName 3) (gCons (gName 4) (gCons (gName 5) gNil)))))
    (tDrop (tBM Z.K "list" rAppend (tFld Z.K (tVar 0) "frames") (tCons (tMakeZ Z.c_Frame (sp_Frame_init Z) (WE W) (tCons (tVar 3) (tCons (tOp (rAddU Z.K) (tVar 2) (tOp rRep (tLst (tCons (tC (.int 0)) tNil)) (tOp (rI0 fun i j => .int (i - j)) (tVar 5) (tVar 4)))) tNil))) tNil))))
def t_Machine_call (Z : Adr) (W : WX) : TS := (tSeq (tAsg (tMethZ Z.c_Frame "take" (sp_Frame_take Z) (WE W) (tVar 1) (tCons (tOp (rIx Z.K) (tOp (rIx Z.K) (tFld Z.K (tVar 0) "heads") (tVar 2)) (tC (.int 1))) tNil)) (gName 3))
    (tSeq (tIfS (tTest (tOp rIsU (tVar 3) (tC .non))) (tRet (tC (.str "stray"))) tNext)
    (tSeq (tIfS (tTest (tOp (rEqU Z.K) (tCB (rLen Z.K) (tCons (tFld Z.K (tVar 0) "frames") tNil)) (tC (.int 16)))) (tRet (tC (.str "deep"))) tNext)
    (tSeq (tAsg (tMethZ Z.c_Machine "breathe" (sp_Machine_breathe Z) (WE W) (tVar 0) tNil) (gName 4))
    (C8.tCut (tIfS (tTest (tOp rIsU (tVar 4) (tC .non))) (tDrop (tMethZ Z.c_Machine "begin" (sp_Machine_begin Z) (WE W) (tVar 0) (tCons (tVar 2) (tCons (tVar 3) tNil)))) tNext)
    (tRet (tVar 4)))))))
def t_Machine_back (Z : Adr) (W : WX) : TS := (tSeq (tAsg (tMethZ Z.c_Frame "take" (sp_Frame_take Z) (WE W) (tVar 1) (tCons (tC (.int 1)) tNil)) (gName 2))
    (tSeq (tIfS (tTest (tOp rIsU (tVar 2) (tC .non))) (tRet (tC (.str "stray"))) tNext)
    (tSeq (tDrop (tBM0 Z.K "list" rPop (tFld Z.K (tVar 0) "frames")))
    (tSeq (tIfS (tTest (tOp (rEqU Z.K) (tFld Z.K (tVar 0) "frames") (tLst tNil))) (tSeq (sFld Z.K (tVar 0) (tOp (rIx Z.K) (tVar 2) (tC (.int 0))) "number")
    (tRet (tC (.str "done")))) tNext)
    (tSeq (tDrop (tMethZ Z.c_Frame "lay" (sp_Frame_lay Z) (WE W) (tOp (rIx Z.K) (tFld Z.K (tVar 0) "frames") (tUn (rU fun i => .int (-i)) (tC (.int 1)))) (tCons (tOp (rIx Z.K) (tVar 2) (tC (.int 0))) tNil)))
    (tRet (tC .non)))))))
def t_Machine_fail (Z : Adr) (W : WX) : TS := (tSeq (tAsg (tMethZ Z.c_Frame "take" (sp_Frame_take Z) (WE W) (tVar 1) (tCons (tC (.int 1)) tNil)) (gName 2))
    (tSeq (tIfS (tTest (tOp rIsU (tVar 2) (tC .non))) (tRet (tC (.str "stray"))) tNext)
    (tSeq (sFld Z.K (tVar 0) (tOp (rIx Z.K) (tVar 2) (tC (.int 0))) "number")
    (tRet (tC (.str "told"))))))
def t_Machine_deed (Z : Adr) (W : WX) : TS := (tSeq (tAsg (tMethZ Z.c_Frame "take" (sp_Frame_take Z) (WE W) (tVar 1) (tCons (tCallS (sp_parts_of Z) (WE W) (tCons (tVar 2) tNil)) tNil)) (gName 3))
    (tSeq (tIfS (tTest (tOp rIsU (tVar 3) (tC .non))) (tRet (tC (.str "stray"))) tNext)
    (tSeq (tAsg (tCallS (sp_worth Z) (WE W) (tCons (tVar 2) (tCons (tVar 3) (tCons (tFld Z.K (tVar 0) "heap") tNil)))) (gUn Z.K 2 (gCons (gName 4) (gCons (gName 5) gNil))))
    (C8.tCut (tIfS (tTest (tOp rIsU (tVar 4) (tC .non))) (tDrop (tMethZ Z.c_Frame "lay" (sp_Frame_lay Z) (WE W) (tVar 1) (tCons (tVar 5) tNil))) tNext)
    (tRet (tVar 4))))))
def t_Machine_boxed (Z : Adr) (W : WX) : TS := (tSeq (tIfS (tTest (tOp (rI0 fun i j => .bl (decide (j ≤ i))) (tVar 3) (tCB (rLen Z.K) (tCons (tFld Z.K (tVar 1) "boxes") tNil)))) (tRet (tC (.str "stray"))) tNext)
    (tSeq (tIfS (tTest (tOp (rEqU Z.K) (tVar 2) (tC (.int 1)))) (tSeq (tDrop (tMethZ Z.c_Frame "lay" (sp_Frame_lay Z) (WE W) (tVar 1) (tCons (tOp (rIx Z.K) (tFld Z.K (tVar 1) "boxes") (tVar 3)) tNil)))
    (tRet (tC .non))) tNext)
    (tSeq (tAsg (tMethZ Z.c_Frame "take" (sp_Frame_take Z) (WE W) (tVar 1) (tCons (tC (.int 1)) tNil)) (gName 4))
    (tSeq (tIfS (tTest (tOp rIsU (tVar 4) (tC .non))) (tRet (tC (.str "stray"))) tNext)
    (tSeq (tAsg (tOp (rIx Z.K) (tVar 4) (tC (.int 0))) (gSub (tFld Z.K (tVar 1) "boxes") (tVar 3) rSetL))
    (tSeq (tDrop (tMethZ Z.c_Frame "lay" (sp_Frame_lay Z) (WE W) (tVar 1) (tCons (tOp (rIx Z.K) (tVar 4) (tC (.int 0))) tNil)))
    (tRet (tC .non))))))))
def t_Machine_led (Z : Adr) (W : WX) : TS := (tSeq (tAsg (tMethZ Z.c_Frame "take" (sp_Frame_take Z) (WE W) (tVar 1) (tCons (tC (.int 1)) tNil)) (gName 4))
    (tSeq (tIfS (tTest (tOp rIsU (tVar 4) (tC .non))) (tRet (tC (.str "stray"))) tNext)
    (C8.tCut (tIfS (tAnd (tTest (tOp (rEqU Z.K) (tVar 2) (tC (.int 5)))) (tTest (tOp (rEqU Z.K) (tOp (rIx Z.K) (tVar 4) (tC (.int 0))) (tC (.int 0))))) (sFld Z.K (tVar 1) (tVar 3) "at") tNext)
    (C8.tCut (tIfS (tTest (tOp (rEqU Z.K) (tVar 2) (tC (.int 11)))) (tSeq (tAsg (tOp (rI0 fun i j => .int (i - j)) (tVar 3) (tC (.int 1))) (gName 5))
    (C8.tCut (tIfS (tTest (tChain (rI0 fun i j => .bl (decide (i ≤ j))) (rI0 fun i j => .bl (decide (i < j))) (tC (.int 0)) (tOp (rIx Z.K) (tVar 4) (tC (.int 0))) (tVar 3))) (tAsg (tOp (rIx Z.K) (tVar 4) (tC (.int 0))) (gName 5)) tNext)
    (sFld Z.K (tVar 1) (tOp (rAddU Z.K) (tFld Z.K (tVar 1) "at") (tVar 5)) "at"))) tNext)
    (tRet (tC .non))))))
def t_Machine_plain_row (Z : Adr) (W : WX) : TS := (C8.tCut (tIfS (tTest (tOp (rEqU Z.K) (tVar 2) (tC (.int 0)))) (tDrop (tMethZ Z.c_Frame "lay" (sp_Frame_lay Z) (WE W) (tVar 1) (tCons (tVar 3) tNil))) tNext)
    (C8.tCut (tIfS (tTest (tOp (rEqU Z.K) (tVar 2) (tC (.int 4)))) (sFld Z.K (tVar 1) (tVar 3) "at") tNext)
    (tSeq (tIfS (tTest (tOp (rEqU Z.K) (tVar 2) (tC (.int 9)))) (tRet (tMethZ Z.c_Machine "breathe" (sp_Machine_breathe Z) (WE W) (tVar 0) tNil)) tNext)
    (tRet (tC .non)))))
def t_Machine_step (Z : Adr) (W : WX) : TS := (tSeq (tAsg (tOp (rIx Z.K) (tFld Z.K (tVar 0) "code_rows") (tFld Z.K (tVar 1) "at")) (gUn Z.K 2 (gCons (gName 2) (gCons (gName 3) gNil))))
    (tSeq (sFld Z.K (tVar 1) (tOp (rAddU Z.K) (tFld Z.K (tVar 1) "at") (tC (.int 1))) "at")
    (tSeq (tIfS (tTest (tOp (rIn Z.K false) (tVar 2) (tTup (tCons (tC (.int 1)) (tCons (tC (.int 2)) tNil))))) (tRet (tMethZ Z.c_Machine "boxed" (sp_Machine_boxed Z) (WE W) (tVar 0) (tCons (tVar 1) (tCons (tVar 2) (tCons (tVar 3) tNil))))) tNext)
    (tSeq (tIfS (tTest (tOp (rIn Z.K false) (tVar 2) (tTup (tCons (tC (.int 3)) (tCons (tC (.int 5)) (tCons (tC (.int 11)) tNil)))))) (tRet (tMethZ Z.c_Machine "led" (sp_Machine_led Z) (WE W) (tVar 0) (tCons (tVar 1) (tCons (tVar 2) (tCons (tVar 3) tNil))))) tNext)
    (tSeq (tIfS (tTest (tOp (rEqU Z.K) (tVar 2) (tC (.int 6)))) (tRet (tMethZ Z.c_Machine "call" (sp_Machine_call Z) (WE W) (tVar 0) (tCons (tVar 1) (tCons (tVar 3) tNil)))) tNext)
    (tSeq (tIfS (tTest (tOp (rEqU Z.K) (tVar 2) (tC (.int 7)))) (tRet (tMethZ Z.c_Machine "back" (sp_Machine_back Z) (WE W) (tVar 0) (tCons (tVar 1) tNil))) tNext)
    (tSeq (tIfS (tTest (tOp (rEqU Z.K) (tVar 2) (tC (.int 8)))) (tRet (tMethZ Z.c_Machine "fail" (sp_Machine_fail Z) (WE W) (tVar 0) (tCons (tVar 1) tNil))) tNext)
    (tSeq (tIfS (tTest (tOp (rEqU Z.K) (tVar 2) (tC (.int 10)))) (tRet (tMethZ Z.c_Machine "deed" (sp_Machine_deed Z) (WE W) (tVar 0) (tCons (tVar 1) (tCons (tVar 3) tNil)))) tNext)
    (tRet (tMethZ Z.c_Machine "plain_row" (sp_Machine_plain_row Z) (WE W) (tVar 0) (tCons (tVar 1) (tCons (tVar 2) (tCons (tVar 3) tNil)))))))))))))
def t_Machine_go_on (Z : Adr) (W : WX) : TS := (tSeq (tAsg (tMethZ Z.c_Machine "breathe" (sp_Machine_breathe Z) (WE W) (tVar 0) tNil) (gName 2))
    (C8.tCut (tIfS (tTest (tOp rIsU (tVar 2) (tC .non))) (tDrop (tMethZ Z.c_Machine "begin" (sp_Machine_begin Z) (WE W) (tVar 0) (tCons (tC (.int 0)) (tCons (tLst tNil) tNil)))) tNext)
    (tSeq (tAsg (tC (.int 0)) (gName 3))
    (tSeq (tWhile (tTest (tOp rIsU (tVar 2) (tC .non))) (tSeq (tAsg (tOp (rIx Z.K) (tFld Z.K (tVar 0) "frames") (tUn (rU fun i => .int (-i)) (tC (.int 1)))) (gName 4))
    (tIfS (tTest (tOp (rI0 fun i j => .bl (decide (j ≤ i))) (tFld Z.K (tVar 4) "at") (tCB (rLen Z.K) (tCons (tFld Z.K (tVar 0) "code_rows") tNil)))) (tAsg (tC (.str "stray")) (gName 2)) (tIfS (tTest (tOp (rI0 fun i j => .bl (decide (j ≤ i))) (tVar 3) (tVar 1))) (tAsg (tC (.str "rows")) (gName 2)) (tSeq (tAsg (tOp (rAddU Z.K) (tVar 3) (tC (.int 1))) (gName 3))
    (tAsg (tMethZ Z.c_Machine "step" (sp_Machine_step Z) (WE W) (tVar 0) (tCons (tVar 4) tNil)) (gName 2)))))))
    (tRet (tVar 2))))))
def t_go (Z : Adr) (W : WX) : TS := (tSeq (tAsg (tMakeZ Z.c_Machine (sp_Machine_init Z) (WE W) (tCons (tVar 0) (tCons (tVar 1) (tCons (tVar 2) tNil)))) (gName 4))
    (tSeq (tAsg (tMethZ Z.c_Machine "go_on" (sp_Machine_go_on Z) (WE W) (tVar 4) (tCons (tVar 3) tNil)) (gName 5))
    (tRet (tTup (tCons (tVar 5) (tCons (tFld Z.K (tVar 4) "number") (tCons (tCB (rListOf Z.K) (tCons (tOp (rIx Z.K) (tFld Z.K (tVar 4) "heap") (tC (.int 1))) tNil)) tNil)))))))
def t_Lpen (Z : Adr) (W : WX) : TS := (tRet (tLst (tCons (tVar 0) (tCons (tC (.int 0)) (tCons (tC (.int 0)) (tCons (tC (.int 0)) tNil))))))
def t_Lmixed (Z : Adr) (W : WX) : TS := (tSeq (tAsg (tOp rMod (tOp rMul (tOp (rAddU Z.K) (tOp (rAddU Z.K) (tOp rMod (tVar 0) (tC (.int 2147483647))) (tOp rMul (tC (.int 7919)) (tVar 1))) (tC (.int 1))) (tC (.int 48271))) (tC (.int 2147483629))) (gName 2))
    (tRet (tOp rFdv (tOp rMod (tOp rMul (tVar 2) (tOp (rAddU Z.K) (tOp (rAddU Z.K) (tOp rMod (tVar 2) (tC (.int 65521))) (tVar 1)) (tC (.int 2)))) (tC (.int 2147483587))) (tC (.int 5)))))
def t_Ltake (Z : Adr) (W : WX) : TS := (C8.tCut (tIfS (tTest (tOp (rEqU Z.K) (tOp (rIx Z.K) (tVar 0) (tC (.int 2))) (tC (.int 0)))) (tSeq (tAsg (tC (.int 61)) (gName 2))
    (C8.tCut (tIfS (tTest (tOp (rI0 fun i j => .bl (decide (j < i))) (tCB (rLen Z.K) (tCons (tOp (rIx Z.K) (tVar 0) (tC (.int 0))) tNil)) (tC (.int 0)))) (tAsg (tOp (rIx Z.K) (tOp (rIx Z.K) (tVar 0) (tC (.int 0))) (tOp rMod (tOp (rIx Z.K) (tVar 0) (tC (.int 1))) (tCB (rLen Z.K) (tCons (tOp (rIx Z.K) (tVar 0) (tC (.int 0))) tNil)))) (gName 2)) tNext)
    (tSeq (tAsg (tOp (rAddU Z.K) (tOp (rIx Z.K) (tVar 0) (tC (.int 1))) (tC (.int 1))) (gSub (tVar 0) (tC (.int 1)) rSetL))
    (tSeq (tIfS (tOr (tTest (tOp (rI0 fun i j => .bl (decide (i < j))) (tVar 2) (tC (.int 1000000000000000000)))) (tTest (tOp (rI0 fun i j => .bl (decide (j < i))) (tOp (rIx Z.K) (tVar 0) (tC (.int 1))) (tCB (rLen Z.K) (tCons (tOp (rIx Z.K) (tVar 0) (tC (.int 0))) tNil))))) (tSeq (tAsg (tOp (rAddU Z.K) (tOp (rIx Z.K) (tVar 0) (tC (.int 3))) (tC (.int 1))) (gSub (tVar 0) (tC (.int 3)) rSetL))
    (tRet (tOp rMod (tCallS (sp_Lmixed Z) (WE W) (tCons (tVar 2) (tCons (tOp (rIx Z.K) (tVar 0) (tC (.int 3))) tNil))) (tVar 1)))) tNext)
    (tAsg (tVar 2) (gSub (tVar 0) (tC (.int 2)) rSetL)))))) tNext)
    (tSeq (tAsg (tOp rMod (tOp (rIx Z.K) (tVar 0) (tC (.int 2))) (tVar 1)) (gName 3))
    (tSeq (tAsg (tOp rFdv (tOp (rIx Z.K) (tVar 0) (tC (.int 2))) (tVar 1)) (gSub (tVar 0) (tC (.int 2)) rSetL))
    (tRet (tVar 3)))))
def t_Lnumber (Z : Adr) (W : WX) : TS := (tSeq (tIfS (tTest (tOp (rEqU Z.K) (tCallS (sp_Ltake Z) (WE W) (tCons (tVar 0) (tCons (tC (.int 10)) tNil))) (tC (.int 9)))) (tRet (tOp (rIx Z.K) (tLst (tCons (tC (.int 100000000000000000000000000000000000000000000000000)) (tCons (tOp (rI0 fun i j => .int (i - j)) (tC (.int 0)) (tC (.int 100000000000000000000000000000000000000000000000000))) (tCons (tOp (rI0 fun i j => .int (i - j)) (tC (.int 10000000000000000000000000000000000000000)) (tC (.int 1))) (tCons (tOp (rI0 fun i j => .int (i - j)) (tC (.int 0)) (tC (.int 7))) tNil))))) (tCallS (sp_Ltake Z) (WE W) (tCons (tVar 0) (tCons (tC (.int 4)) tNil))))) tNext)
    (tRet (tOp (rI0 fun i j => .int (i - j)) (tCallS (sp_Ltake Z) (WE W) (tCons (tVar 0) (tCons (tC (.int 12)) tNil))) (tC (.int 3)))))
def t_Lneeds (Z : Adr) (W : WX) : TS := (tSeq (tIfS (tTest (tOp (rEqU Z.K) (tVar 0) (tC (.int 6)))) (tRet (tOp (rIx Z.K) (tOp (rIx Z.K) (tVar 2) (tVar 1)) (tC (.int 1)))) tNext)
    (tSeq (tIfS (tTest (tOp (rEqU Z.K) (tVar 0) (tC (.int 10)))) (tRet (tOp (rIx Z.K) (tLst (tCons (tC (.int 2)) (tCons (tC (.int 2)) (tCons (tC (.int 2)) (tCons (tC (.int 2)) (tCons (tC (.int 2)) (tCons (tC (.int 2)) (tCons (tC (.int 2)) (tCons (tC (.int 2)) (tCons (tC (.int 2)) (tCons (tC (.int 3)) (tCons (tC (.int 1)) (tCons (tC (.int 0)) tNil))))))))))))) (tOp (rI0 fun i j => .int (i - j)) (tVar 1) (tC (.int 8))))) tNext)
    (tRet (tOp (rIx Z.K) (tLst (tCons (tC (.int 0)) (tCons (tC (.int 0)) (tCons (tC (.int 1)) (tCons (tC (.int 1)) (tCons (tC (.int 0)) (tCons (tC (.int 1)) (tCons (tC (.int 0)) (tCons (tC (.int 1)) (tCons (tC (.int 1)) (tCons (tC (.int 0)) (tCons (tC (.int 0)) (tCons (tC (.int 1)) tNil))))))))))))) (tVar 0)))))
def t_Lrow (Z : Adr) (W : WX) : TS := (tSeq (tAsg (tOp (rIx Z.K) (tLst (tCons (tC (.int 0)) (tCons (tC (.int 0)) (tCons (tC (.int 0)) (tCons (tC (.int 1)) (tCons (tC (.int 1)) (tCons (tC (.int 2)) (tCons (tC (.int 3)) (tCons (tC (.int 4)) (tCons (tC (.int 5)) (tCons (tC (.int 6)) (tCons (tC (.int 6)) (tCons (tC (.int 7)) (tCons (tC (.int 8)) (tCons (tC (.int 9)) (tCons (tC (.int 10)) (tCons (tC (.int 10)) (tCons (tC (.int 10)) (tCons (tC (.int 11)) (tCons (tC (.int 0)) (tCons (tC (.int 10)) tNil))))))))))))))))))))) (tCallS (sp_Ltake Z) (WE W) (tCons (tVar 0) (tCons (tC (.int 20)) tNil)))) (gName 4))
    (tSeq (tAsg (tC (.int 0)) (gName 5))
    (C8.tCut (tIfS (tTest (tOp (rEqU Z.K) (tVar 4) (tC (.int 0)))) (tAsg (tCallS (sp_Lnumber Z) (WE W) (tCons (tVar 0) tNil)) (gName 5)) tNext)
    (C8.tCut (tIfS (tTest (tOp (rIn Z.K false) (tVar 4) (tTup (tCons (tC (.int 1)) (tCons (tC (.int 2)) tNil))))) (tAsg (tCallS (sp_Ltake Z) (WE W) (tCons (tVar 0) (tCons (tOp (rIx Z.K) (tLst (tCons (tC (.int 3)) (tCons (tC (.int 3)) (tCons (tC (.int 12)) tNil)))) (tCallS (sp_Ltake Z) (WE W) (tCons (tVar 0) (tCons (tC (.int 3)) tNil)))) tNil))) (gName 5)) tNext)
    (C8.tCut (tIfS (tTest (tOp (rIn Z.K false) (tVar 4) (tTup (tCons (tC (.int 4)) (tCons (tC (.int 5)) tNil))))) (tAsg (tCallS (sp_Ltake Z) (WE W) (tCons (tVar 0) (tCons (tVar 2) tNil))) (gName 5)) tNext)
    (C8.tCut (tIfS (tTest (tOp (rEqU Z.K) (tVar 4) (tC (.int 6)))) (tAsg (tCallS (sp_Ltake Z) (WE W) (tCons (tVar 0) (tCons (tCB (rLen Z.K) (tCons (tVar 3) tNil)) tNil))) (gName 5)) tNext)
    (C8.tCut (tIfS (tTest (tOp (rEqU Z.K) (tVar 4) (tC (.int 10)))) (tAsg (tOp (rAddU Z.K) (tC (.int 8)) (tCallS (sp_Ltake Z) (WE W) (tCons (tVar 0) (tCons (tC (.int 12)) tNil)))) (gName 5)) tNext)
    (C8.tCut (tIfS (tTest (tOp (rEqU Z.K) (tVar 4) (tC (.int 11)))) (tAsg (tOp (rIx Z.K) (tLst (tCons (tC (.int 2)) (tCons (tC (.int 3)) (tCons (tOp (rAddU Z.K) (tC (.int 2)) (tCallS (sp_Ltake Z) (WE W) (tCons (tVar 0) (tCons (tC (.int 11)) tNil)))) tNil)))) (tCallS (sp_Ltake Z) (WE W) (tCons (tVar 0) (tCons (tC (.int 3)) tNil)))) (gName 5)) tNext)
    (tSeq (tIfS (tAnd (tTest (tOp (rI0 fun i j => .bl (decide (i < j))) (tVar 1) (tCallS (sp_Lneeds Z) (WE W) (tCons (tVar 4) (tCons (tVar 5) (tCons (tVar 3) tNil)))))) (tTest (tOp (rI0 fun i j => .bl (decide (j < i))) (tCallS (sp_Ltake Z) (WE W) (tCons (tVar 0) (tCons (tC (.int 9)) tNil))) (tC (.int 0))))) (tRet (tTup (tCons (tC (.int 0)) (tCons (tCallS (sp_Lnumber Z) (WE W) (tCons (tVar 0) tNil)) tNil)))) tNext)
    (tRet (tTup (tCons (tVar 4) (tCons (tVar 5) tNil)))))))))))))
def t_Lheight (Z : Adr) (W : WX) : TS := (tSeq (tIfS (tTest (tOp (rIn Z.K false) (tVar 0) (tTup (tCons (tC (.int 4)) (tCons (tC (.int 7)) (tCons (tC (.int 8)) tNil)))))) (tRet (tC (.int 0))) tNext)
    (tSeq (tAsg (tCB rMax2 (tCons (tC (.int 0)) (tCons (tOp (rI0 fun i j => .int (i - j)) (tVar 3) (tCallS (sp_Lneeds Z) (WE W) (tCons (tVar 0) (tCons (tVar 1) (tCons (tVar 2) tNil))))) tNil))) (gName 4))
    (tRet (tOp (rAddU Z.K) (tVar 4) (tCB rInt1 (tCons (tOp (rIn Z.K false) (tVar 0) (tTup (tCons (tC (.int 0)) (tCons (tC (.int 1)) (tCons (tC (.int 2)) (tCons (tC (.int 6)) (tCons (tC (.int 10)) tNil))))))) tNil))))))
def t_Lcode (Z : Adr) (W : WX) : TS := (tSeq (tAsg (tOp (rAddU Z.K) (tC (.int 1)) (tCallS (sp_Ltake Z) (WE W) (tCons (tVar 0) (tCons (tC (.int 24)) tNil)))) (gName 1))
    (tSeq (tAsg (tLst tNil) (gName 2))
    (tSeq (tFor (iRng1 (tCons (tOp (rIx Z.K) (tLst (tCons (tC (.int 1)) (tCons (tC (.int 2)) (tCons (tC (.int 3)) (tCons (tOp (rAddU Z.K) (tC (.int 1)) (tCallS (sp_Ltake Z) (WE W) (tCons (tVar 0) (tCons (tC (.int 16)) tNil)))) tNil))))) (tCallS (sp_Ltake Z) (WE W) (tCons (tVar 0) (tCons (tC (.int 4)) tNil)))) tNil)) (gName 3) (tSeq (tAsg (tOp rMul (tCallS (sp_Ltake Z) (WE W) (tCons (tVar 0) (tCons (tC (.int 5)) tNil))) (tCB rInt1 (tCons (tOp (rI0 fun i j => .bl (decide (j < i))) (tVar 3) (tC (.int 0))) tNil))) (gName 4))
    (tDrop (tBM Z.K "list" rAppend (tVar 2) (tCons (tTup (tCons (tC (.int 0)) (tCons (tVar 4) (tCons (tOp (rAddU Z.K) (tVar 4) (tCallS (sp_Ltake Z) (WE W) (tCons (tVar 0) (tCons (tOp (rIx Z.K) (tLst (tCons (tC (.int 3)) (tCons (tOp (rI0 fun i j => .int (i - j)) (tC (.int 13)) (tVar 4)) tNil))) (tCallS (sp_Ltake Z) (WE W) (tCons (tVar 0) (tCons (tC (.int 2)) tNil)))) tNil)))) tNil)))) tNil)))))
    (tSeq (tAsg (tLst tNil) (gName 5))
    (tSeq (tAsg (tLst tNil) (gName 6))
    (tSeq (tAsg (tC (.int 0)) (gName 7))
    (tSeq (tFor (iRng1 (tCons (tVar 1) tNil)) (gName 3) (C8.tCut (tIfS (tTest (tOp (rEqU Z.K) (tVar 7) (tC (.int 0)))) (tDrop (tBM Z.K "list" rAppend (tVar 6) (tCons (tVar 3) tNil))) tNext)
    (tSeq (tDrop (tBM Z.K "list" rAppend (tVar 5) (tCons (tCallS (sp_Lrow Z) (WE W) (tCons (tVar 0) (tCons (tVar 7) (tCons (tVar 1) (tCons (tVar 2) tNil))))) tNil)))
    (tAsg (tCallS (sp_Lheight Z) (WE W) (tCons (tOp (rIx Z.K) (tOp (rIx Z.K) (tVar 5) (tVar 3)) (tC (.int 0))) (tCons (tOp (rIx Z.K) (tOp (rIx Z.K) (tVar 5) (tVar 3)) (tC (.int 1))) (tCons (tVar 2) (tCons (tVar 7) tNil))))) (gName 7)))))
    (tSeq (tFor (iRng1 (tCons (tCB (rLen Z.K) (tCons (tVar 2) tNil)) tNil)) (gName 3) (tSeq (tAsg (tOp (rIx Z.K) (tVar 6) (tCallS (sp_Ltake Z) (WE W) (tCons (tVar 0) (tCons (tCB (rLen Z.K) (tCons (tVar 6) tNil)) tNil)))) (gName 8))
    (C8.tCut (tIfS (tAnd (tTest (tOp (rEqU Z.K) (tVar 3) (tC (.int 0)))) (tTest (tOp (rI0 fun i j => .bl (decide (j < i))) (tCallS (sp_Ltake Z) (WE W) (tCons (tVar 0) (tCons (tC (.int 4)) tNil))) (tC (.int 0))))) (tAsg (tC (.int 0)) (gName 8)) tNext)
    (tAsg (tTup (tCons (tVar 8) (tCons (tOp (rIx Z.K) (tOp (rIx Z.K) (tVar 2) (tVar 3)) (tC (.int 1))) (tCons (tOp (rIx Z.K) (tOp (rIx Z.K) (tVar 2) (tVar 3)) (tC (.int 2))) tNil)))) (gSub (tVar 2) (tVar 3) rSetL)))))
    (tRet (tTup (tCons (tVar 2) (tCons (tVar 5) tNil))))))))))))
def t_Lword (Z : Adr) (W : WX) : TS := (tSeq (tIfS (tTest (tOp rIsU (tVar 0) (tC .non))) (tRet (tC (.str "told"))) tNext)
    (tSeq (tAsg (tCB (rIsi3 Z.K) (tCons (tVar 0) (tCons (tTup (tCons (tC (.ref Z.c_NoSheet)) (tCons (tC (.ref Z.c_NoText)) (tCons (tC (.ref Z.c_NoRow)) (tCons (tC (.ref Z.c_NoName)) tNil))))) tNil))) (gName 1))
    (tRet (tOp (rIx Z.K) (tLst (tCons (tC (.str "other")) (tCons (tC (.str "code")) tNil))) (tCB rInt1 (tCons (tAndV (tCB (rIsi3 Z.K) (tCons (tVar 0) (tCons (tC (.ref Z.c_NoCode)) tNil))) (tAndV (tCB (rIsi3 Z.K) (tCons (tVar 0) (tCons (tC (.ty "ValueError")) tNil))) (tNotV (tVar 1)))) tNil))))))
def t_Lbad_row (Z : Adr) (W : WX) : TS := (tSeq (tAsg (tLst (tCons (tTup (tCons (tC (.int 12)) (tCons (tC (.int 0)) tNil))) (tCons (tTup (tCons (tUn (rU fun i => .int (-i)) (tC (.int 1))) (tCons (tC (.int 0)) tNil))) (tCons (tTup (tCons (tC (.int 1)) (tCons (tC (.int 12)) tNil))) (tCons (tTup (tCons (tC (.int 1)) (tCons (tUn (rU fun i => .int (-i)) (tC (.int 1))) tNil))) (tCons (tTup (tCons (tC (.int 2)) (tCons (tC (.int 12)) tNil))) (tCons (tTup (tCons (tC (.int 2)) (tCons (tUn (rU fun i => .int (-i)) (tC (.int 3))) tNil))) (tCons (tTup (tCons (tC (.int 3)) (tCons (tC (.int 1)) tNil))) (tCons (tTup (tCons (tC (.int 4)) (tCons (tVar 1) tNil))) (tCons (tTup (tCons (tC (.int 4)) (tCons (tUn (rU fun i => .int (-i)) (tC (.int 1))) tNil))) (tCons (tTup (tCons (tC (.int 5)) (tCons (tVar 1) tNil))) (tCons (tTup (tCons (tC (.int 5)) (tCons (tUn (rU fun i => .int (-i)) (tC (.int 1))) tNil))) tNil)))))))))))) (gName 3))
    (tSeq (tAsg (tOp (rAddU Z.K) (tVar 3) (tLst (tCons (tTup (tCons (tC (.int 6)) (tCons (tVar 2) tNil))) (tCons (tTup (tCons (tC (.int 6)) (tCons (tUn (rU fun i => .int (-i)) (tC (.int 1))) tNil))) (tCons (tTup (tCons (tC (.int 7)) (tCons (tC (.int 1)) tNil))) (tCons (tTup (tCons (tC (.int 8)) (tCons (tUn (rU fun i => .int (-i)) (tC (.int 1))) tNil))) (tCons (tTup (tCons (tC (.int 9)) (tCons (tC (.int 7)) tNil))) (tCons (tTup (tCons (tC (.int 10)) (tCons (tC (.int 7)) tNil))) (tCons (tTup (tCons (tC (.int 10)) (tCons (tC (.int 20)) tNil))) (tCons (tTup (tCons (tC (.int 10)) (tCons (tC (.int 0)) tNil))) (tCons (tTup (tCons (tC (.int 11)) (tCons (tC (.int 1)) tNil))) (tCons (tTup (tCons (tC (.int 11)) (tCons (tC (.int 13)) tNil))) tNil)))))))))))) (gName 3))
    (tSeq (tAsg (tOp (rAddU Z.K) (tVar 3) (tLst (tCons (tTup (tCons (tC (.int 11)) (tCons (tC (.int 0)) tNil))) (tCons (tTup (tCons (tC (.int 10000000000000000000000000000000000000000)) (tCons (tC (.int 0)) tNil))) (tCons (tTup (tCons (tC (.int 4)) (tCons (tC (.int 10000000000000000000000000000000000000000)) tNil))) (tCons (tTup (tCons (tC (.int 7)) (tCons (tUn (rU fun i => .int (-i)) (tC (.int 1))) tNil))) tNil)))))) (gName 3))
    (tRet (tOp (rIx Z.K) (tVar 3) (tCallS (sp_Ltake Z) (WE W) (tCons (tVar 0) (tCons (tCB (rLen Z.K) (tCons (tVar 3) tNil)) tNil))))))))
def t_Lbad_head (Z : Adr) (W : WX) : TS := (tSeq (tAsg (tVar 1) (gUn Z.K 3 (gCons (gName 4) (gCons (gName 5) (gCons (gName 6) gNil)))))
    (tSeq (tAsg (tLst (tCons (tTup (tCons (tVar 3) (tCons (tVar 5) (tCons (tVar 6) tNil)))) (tCons (tTup (tCons (tUn (rU fun i => .int (-i)) (tC (.int 1))) (tCons (tVar 5) (tCons (tVar 6) tNil)))) (tCons (tTup (tCons (tVar 4) (tCons (tC (.int 5)) (tCons (tC (.int 12)) tNil)))) (tCons (tTup (tCons (tVar 4) (tCons (tUn (rU fun i => .int (-i)) (tC (.int 1))) (tCons (tVar 6) tNil)))) (tCons (tTup (tCons (tVar 4) (tCons (tVar 5) (tCons (tOp (rI0 fun i j => .int (i - j)) (tVar 5) (tC (.int 1))) tNil)))) tNil)))))) (gName 7))
    (tSeq (tAsg (tOp (rAddU Z.K) (tVar 7) (tLst (tCons (tTup (tCons (tVar 4) (tCons (tVar 5) (tCons (tC (.int 13)) tNil)))) (tCons (tOp (rIx Z.K) (tLst (tCons (tTup (tCons (tVar 4) (tCons (tC (.int 1)) (tCons (tC (.int 3)) tNil)))) (tCons (tTup (tCons (tVar 4) (tCons (tC (.int 4)) (tCons (tC (.int 3)) tNil)))) tNil))) (tCB rInt1 (tCons (tOp (rI0 fun i j => .bl (decide (j < i))) (tVar 2) (tC (.int 0))) tNil))) (tCons (tTup (tCons (tC (.int 10000000000000000000000000000000000000000)) (tCons (tVar 5) (tCons (tVar 6) tNil)))) tNil))))) (gName 7))
    (tRet (tOp (rIx Z.K) (tVar 7) (tCallS (sp_Ltake Z) (WE W) (tCons (tVar 0) (tCons (tCB (rLen Z.K) (tCons (tVar 7) tNil)) tNil))))))))
def t_Lflat (Z : Adr) (W : WX) : TS := (tSeq (tAsg (tLst (tCons (tCB (rLen Z.K) (tCons (tVar 0) tNil)) tNil)) (gName 2))
    (tSeq (tFor (iList Z.K (tOp (rAddU Z.K) (tVar 0) (tVar 1))) (gName 3) (tAsg (tOp (rAddU Z.K) (tVar 2) (tCB (rListOf Z.K) (tCons (tVar 3) tNil))) (gName 2)))
    (tRet (tVar 2))))
def t_Lbent (Z : Adr) (W : WX) : TS := (tSeq (tAsg (tCallS (sp_Ltake Z) (WE W) (tCons (tVar 0) (tCons (tCB (rLen Z.K) (tCons (tVar 2) tNil)) tNil))) (gName 3))
    (tSeq (tAsg (tCallS (sp_Ltake Z) (WE W) (tCons (tVar 0) (tCons (tCB (rLen Z.K) (tCons (tVar 1) tNil)) tNil))) (gName 4))
    (tSeq (tAsg (tCallS (sp_Ltake Z) (WE W) (tCons (tVar 0) (tCons (tC (.int 5)) tNil))) (gName 5))
    (tSeq (tIfS (tTest (tOp (rI0 fun i j => .bl (decide (i < j))) (tVar 5) (tC (.int 2)))) (tRet (tTup (tCons (tVar 1) (tCons (tOp (rAddU Z.K) (tOp (rAddU Z.K) (tSl (rSlU Z.K) (tVar 2) tNoPart (tPart (tVar 3))) (tLst (tCons (tCallS (sp_Lbad_row Z) (WE W) (tCons (tVar 0) (tCons (tCB (rLen Z.K) (tCons (tVar 2) tNil)) (tCons (tCB (rLen Z.K) (tCons (tVar 1) tNil)) tNil)))) tNil))) (tSl (rSlU Z.K) (tVar 2) (tPart (tOp (rAddU Z.K) (tVar 3) (tC (.int 1)))) tNoPart)) tNil)))) tNext)
    (tSeq (tIfS (tTest (tOp (rI0 fun i j => .bl (decide (i < j))) (tVar 5) (tC (.int 4)))) (tRet (tTup (tCons (tOp (rAddU Z.K) (tOp (rAddU Z.K) (tSl (rSlU Z.K) (tVar 1) tNoPart (tPart (tVar 4))) (tLst (tCons (tCallS (sp_Lbad_head Z) (WE W) (tCons (tVar 0) (tCons (tOp (rIx Z.K) (tVar 1) (tVar 4)) (tCons (tVar 4) (tCons (tCB (rLen Z.K) (tCons (tVar 2) tNil)) tNil))))) tNil))) (tSl (rSlU Z.K) (tVar 1) (tPart (tOp (rAddU Z.K) (tVar 4) (tC (.int 1)))) tNoPart)) (tCons (tVar 2) tNil)))) tNext)
    (tSeq (tAsg (tLc (iRng1 (tCons (tC (.int 17)) tNil)) (gName 8) tYes (tTup (tCons (tC (.int 0)) (tCons (tC (.int 0)) (tCons (tC (.int 0)) tNil)))) [7, 8]) (gName 6))
    (tRet (tOp (rIx Z.K) (tLst (tCons (tTup (tCons (tLst tNil) (tCons (tVar 2) tNil))) (tCons (tTup (tCons (tVar 1) (tCons (tLst tNil) tNil))) (tCons (tTup (tCons (tVar 6) (tCons (tVar 2) tNil))) tNil)))) (tCallS (sp_Ltake Z) (WE W) (tCons (tVar 0) (tCons (tC (.int 3)) tNil)))))))))))
def t_Lodd (Z : Adr) (W : WX) : TS := (tSeq (tAsg (tOp (rAddU Z.K) (tC (.int 1)) (tCallS (sp_Ltake Z) (WE W) (tCons (tVar 0) (tCons (tOp (rI0 fun i j => .int (i - j)) (tCB (rLen Z.K) (tCons (tVar 1) tNil)) (tC (.int 1))) tNil)))) (gName 2))
    (tSeq (tAsg (tSl (rSlU Z.K) (tVar 1) tNoPart (tPart (tVar 2))) (gName 3))
    (tSeq (tAsg (tSl (rSlU Z.K) (tVar 1) (tPart (tOp (rAddU Z.K) (tVar 2) (tC (.int 1)))) tNoPart) (gName 4))
    (tSeq (tAsg (tLst (tCons (tOp (rAddU Z.K) (tVar 3) (tVar 4)) (tCons (tOp (rAddU Z.K) (tVar 1) (tLst (tCons (tC (.int 0)) tNil))) (tCons (tOp (rAddU Z.K) (tOp (rAddU Z.K) (tVar 3) (tLst (tCons (tC (.bl true)) tNil))) (tVar 4)) (tCons (tOp (rAddU Z.K) (tOp (rAddU Z.K) (tVar 3) (tLst (tCons (tC (.str "0")) tNil))) (tVar 4)) (tCons (tOp (rAddU Z.K) (tOp (rAddU Z.K) (tVar 3) (tLst (tCons (tC .non) tNil))) (tVar 4)) tNil)))))) (gName 5))
    (tSeq (tAsg (tOp (rAddU Z.K) (tVar 5) (tLst (tCons (tOp (rAddU Z.K) (tOp (rAddU Z.K) (tVar 3) (tLst (tCons (tLst (tCons (tC (.int 0)) tNil)) tNil))) (tVar 4)) (tCons (tCB (rTupOf Z.K) (tCons (tVar 1) tNil)) (tCons (tLst tNil) (tCons (tC (.str "")) (tCons (tC (.str "1 0 0 0 7 0")) (tCons (tC .non) (tCons (tC (.int 7)) (tCons (tC (.bl true)) (tCons tDNewK (tCons (tLst (tCons (tVar 1) tNil)) tNil)))))))))))) (gName 5))
    (tSeq (tAsg (tOp (rAddU Z.K) (tVar 5) (tLst (tCons (tLst (tCons (tOp (rIx Z.K) (tVar 1) (tC (.int 0))) tNil)) (tCons (tSl (rSlU Z.K) (tVar 1) tNoPart (tPart (tUn (rU fun i => .int (-i)) (tC (.int 1))))) (tCons (tOp (rAddU Z.K) (tLst (tCons (tC (.int 0)) tNil)) (tSl (rSlU Z.K) (tVar 1) (tPart (tC (.int 1))) tNoPart)) (tCons (tOp (rAddU Z.K) (tOp (rAddU Z.K) (tVar 3) (tLst (tCons (tTup (tCons (tC (.int 0)) (tCons (tC (.int 0)) tNil))) tNil))) (tVar 4)) tNil)))))) (gName 5))
    (tRet (tOp (rIx Z.K) (tVar 5) (tCallS (sp_Ltake Z) (WE W) (tCons (tVar 0) (tCons (tCB (rLen Z.K) (tCons (tVar 5) tNil)) tNil)))))))))))
def t_Ltried (Z : Adr) (W : WX) : TS := (tSeq (tAsg (tC .non) (gName 3))
    (tSeq (sTryKeep Z.K (.ref Z.c_ChainError) 4 (fun W => (tIfS (tTest (tOp (rEqU Z.K) (tVar 0) (tC (.int 0)))) (tDrop (tCallS (sp_heads_of Z) (WE W) (tCons (tVar 1) tNil))) (tIfS (tTest (tOp (rEqU Z.K) (tVar 0) (tC (.int 1)))) (tDrop (tCallS (sp_rows_of Z) (WE W) (tCons (tVar 1) tNil))) (tIfS (tTest (tOp (rEqU Z.K) (tVar 0) (tC (.int 2)))) (tDrop (tCallS (sp_go Z) (WE W) (tCons (tVar 1) (tCons (tLst tNil) (tCons (tC (.int 1)) (tCons (tC (.int 9)) tNil)))))) (tDrop (tCallS (sp_code_of Z) (WE W) (tCons (tVar 1) (tCons (tVar 2) tNil)))))))) (tAsg (tVar 4) (gName 3)) W)
    (tRet (tCallS (sp_Lword Z) (WE W) (tCons (tVar 3) tNil)))))
def t_Lrefused (Z : Adr) (W : WX) : TS := (tSeq (tIfS (tTest (tOp rNotU (tCallS (sp_is_code Z) (WE W) (tCons (tVar 0) tNil)) (tC (.bl false)))) (tRet (tC (.bl false))) tNext)
    (tRet (tOp (rEqU Z.K) (tLc (iRng1 (tCons (tC (.int 3)) tNil)) (gName 2) tYes (tCallS (sp_Ltried Z) (WE fun _ _ _ _ => False) (tCons (tVar 2) (tCons (tVar 0) (tCons (tC .non) tNil)))) [1, 2]) (tOp rRep (tLst (tCons (tC (.str "code")) tNil)) (tC (.int 3))))))
def t_law (Z : Adr) (W : WX) : TS := (tSeq (tAsg (tCallS (sp_Lpen Z) (WE W) (tCons (tVar 0) tNil)) (gName 1))
    (tSeq (tAsg (tCallS (sp_Lcode Z) (WE W) (tCons (tVar 1) tNil)) (gUn Z.K 2 (gCons (gName 2) (gCons (gName 3) gNil))))
    (tSeq (tAsg (tCallS (sp_Lflat Z) (WE W) (tCons (tVar 2) (tCons (tVar 3) tNil))) (gName 4))
    (tSeq (tFor (iRng1 (tCons (tC (.int 6)) tNil)) (gName 5) (tSeq (tAsg (tCallS (sp_Lbent Z) (WE W) (tCons (tVar 1) (tCons (tVar 2) (tCons (tVar 3) tNil)))) (gUn Z.K 2 (gCons (gName 6) (gCons (gName 7) gNil))))
    (tSeq (tIfS (tOr (tTest (tOp (rNeU Z.K) (tCallS (sp_Ltried Z) (WE W) (tCons (tC (.int 3)) (tCons (tVar 6) (tCons (tVar 7) tNil)))) (tC (.str "code")))) (tNot (tB (tCallS (sp_Lrefused Z) (WE W) (tCons (tCallS (sp_Lflat Z) (WE W) (tCons (tVar 6) (tCons (tVar 7) tNil))) tNil))))) (tRet (tC (.bl false))) tNext)
    (tIfS (tNot (tB (tCallS (sp_Lrefused Z) (WE W) (tCons (tCallS (sp_Lodd Z) (WE W) (tCons (tVar 1) (tCons (tVar 4) tNil))) tNil)))) (tRet (tC (.bl false))) tNext))))
    (tSeq (tFor (iList Z.K (tLst (tCons (tTup (tCons (tC .non) (tCons (tVar 3) tNil))) (tCons (tTup (tCons (tVar 2) (tCons (tC .non) tNil))) (tCons (tTup (tCons (tC (.str "")) (tCons (tVar 3) tNil))) (tCons (tTup (tCons (tVar 2) (tCons (tC (.int 7)) tNil))) (tCons (tTup (tCons (tLst (tCons (tTup (tCons (tC (.int 0)) (tCons (tC (.int 0)) tNil))) tNil)) (tCons (tVar 3) tNil))) (tCons (tTup (tCons (tVar 2) (tCons (tLst (tCons (tTup (tCons (tC (.int 7)) (tCons (tC (.int 0)) (tCons (tC (.int 0)) tNil)))) tNil)) tNil))) tNil)))))))) (gUn Z.K 2 (gCons (gName 8) (gCons (gName 9) gNil))) (tIfS (tTest (tOp (rNeU Z.K) (tCallS (sp_Ltried Z) (WE W) (tCons (tC (.int 3)) (tCons (tVar 8) (tCons (tVar 9) tNil)))) (tC (.str "code")))) (tRet (tC (.bl false))) tNext))
    (tSeq (tFor (iList Z.K (tLst (tCons (tTup (tCons (tLst (tCons (tC .non) tNil)) (tCons (tVar 3) tNil))) (tCons (tTup (tCons (tVar 2) (tCons (tLst (tCons (tC (.str "70")) tNil)) tNil))) (tCons (tTup (tCons (tLst (tCons (tTup (tCons (tC (.int 0)) (tCons (tC (.int 0)) (tCons (tC (.bl true)) tNil)))) tNil)) (tCons (tVar 3) tNil))) (tCons (tTup (tCons (tVar 2) (tCons (tLst (tCons (tTup (tCons (tC (.int 0)) (tCons (tC .non) tNil))) tNil)) tNil))) (tCons (tTup (tCons tDNewK (tCons tDNewK tNil))) tNil))))))) (gUn Z.K 2 (gCons (gName 8) (gCons (gName 9) gNil))) (tIfS (tTest (tOp (rNeU Z.K) (tCallS (sp_Ltried Z) (WE W) (tCons (tC (.int 3)) (tCons (tVar 8) (tCons (tVar 9) tNil)))) (tC (.str "code")))) (tRet (tC (.bl false))) tNext))
    (tRet (tAndV (tOp rIsU (tCallS (sp_is_code Z) (WE W) (tCons (tVar 4) tNil)) (tC (.bl true))) (tAndV (tOp (rEqU Z.K) (tCallS (sp_Ltried Z) (WE W) (tCons (tC (.int 3)) (tCons (tVar 2) (tCons (tVar 3) tNil)))) (tC (.str "told"))) (tOp (rEqU Z.K) (tCallS (sp_Ltried Z) (WE W) (tCons (tC (.int 2)) (tCons (tVar 4) (tCons (tC .non) tNil)))) (tC (.str "told"))))))))))))
end My
local macro_rules | `(tactic| walk_at "own") => `(tactic| first
  | ((with_reducible refine' My.fg_Frame_at ?zt ?zh ?_); (case zt => with_reducible assumption); case zh => walk_at "hp")
  | ((with_reducible refine' My.fg_Frame_boxes ?zt ?zh ?_); (case zt => with_reducible assumption); case zh => walk_at "hp")
  | ((with_reducible refine' My.fg_Frame_values_there ?zt ?zh ?_); (case zt => with_reducible assumption); case zh => walk_at "hp")
  | ((with_reducible refine' My.ms_Frame_take ?zh ?_); case zh => walk_at "hp")
  | ((with_reducible refine' My.ms_Frame_lay ?zh ?_); case zh => walk_at "hp")
  | ((with_reducible refine' My.fg_Machine_heads ?zt ?zh ?_); (case zt => with_reducible assumption); case zh => walk_at "hp")
  | ((with_reducible refine' My.fg_Machine_code_rows ?zt ?zh ?_); (case zt => with_reducible assumption); case zh => walk_at "hp")
  | ((with_reducible refine' My.fg_Machine_heap ?zt ?zh ?_); (case zt => with_reducible assumption); case zh => walk_at "hp")
  | ((with_reducible refine' My.fg_Machine_breaths ?zt ?zh ?_); (case zt => with_reducible assumption); case zh => walk_at "hp")
  | ((with_reducible refine' My.fg_Machine_frames ?zt ?zh ?_); (case zt => with_reducible assumption); case zh => walk_at "hp")
  | ((with_reducible refine' My.fg_Machine_number ?zt ?zh ?_); (case zt => with_reducible assumption); case zh => walk_at "hp")
  | ((with_reducible refine' My.ms_Machine_breathe ?zh ?_); case zh => walk_at "hp")
  | ((with_reducible refine' My.ms_Machine_begin ?zh ?_); case zh => walk_at "hp")
  | ((with_reducible refine' My.ms_Machine_call ?zh ?_); case zh => walk_at "hp")
  | ((with_reducible refine' My.ms_Machine_back ?zh ?_); case zh => walk_at "hp")
  | ((with_reducible refine' My.ms_Machine_fail ?zh ?_); case zh => walk_at "hp")
  | ((with_reducible refine' My.ms_Machine_deed ?zh ?_); case zh => walk_at "hp")
  | ((with_reducible refine' My.ms_Machine_boxed ?zh ?_); case zh => walk_at "hp")
  | ((with_reducible refine' My.ms_Machine_led ?zh ?_); case zh => walk_at "hp")
  | ((with_reducible refine' My.ms_Machine_plain_row ?zh ?_); case zh => walk_at "hp")
  | ((with_reducible refine' My.ms_Machine_step ?zh ?_); case zh => walk_at "hp")
  | ((with_reducible refine' My.ms_Machine_go_on ?zh ?_); case zh => walk_at "hp"))
/-! ### the steps, tried in turn -/
local macro_rules | `(tactic| walk_at "hp") => `(tactic| first
  | with_reducible assumption
  | with_reducible exact upd_same
  | ((with_reducible refine' Z.up_new ?zn ?zq); (case zn => with_reducible assumption); case zq => walk_at "hp")
  | ((with_reducible refine' Z.up_far ?zn ?zq); (case zn => walk_at "ne"); case zq => walk_at "hp")
  | ((with_reducible refine' Z.sm_rd ?zn ?zq); (case zn => with_reducible assumption); case zq => walk_at "hp")
  | ((with_reducible refine' Z.But.rd ?zn ?zm ?zq); (case zn => with_reducible assumption); (case zm => walk_at "ne"); case zq => walk_at "hp"))
local macro_rules | `(tactic| walk_at "ne") => `(tactic| first
  | with_reducible assumption
  | ((with_reducible refine' Ne.symm ?_); with_reducible assumption)
  | ((with_reducible refine' L2.ne_of_none ?zn ?zm); (case zn => with_reducible assumption); case zm => with_reducible assumption)
  | ((with_reducible refine' Ne.symm (L2.ne_of_none ?zn ?zm)); (case zn => with_reducible assumption); case zm => with_reducible assumption))
local macro_rules | `(tactic| walk_at "sq") => `(tactic| first
  | with_reducible assumption
  | ((with_reducible refine' L2.SqL.of ?zq); case zq => walk_at "hp")
  | ((with_reducible refine' L2.SqT.of ?zq); case zq => walk_at "hp")
  | ((with_reducible refine' L2.Same.seq ?zn ?zq); (case zn => with_reducible assumption); case zq => walk_at "sq")
  | ((with_reducible refine' Z.same_sqT ?zn ?zq); (case zn => with_reducible assumption); case zq => walk_at "sq")
  | ((with_reducible refine' Z.But.sqL ?zn ?zm ?zq); (case zn => with_reducible assumption); (case zm => walk_at "ne"); case zq => walk_at "sq")
  | ((with_reducible refine' Z.But.sqT ?zn ?zm ?zq); (case zn => with_reducible assumption); (case zm => walk_at "ne"); case zq => walk_at "sq"))
local macro_rules | `(tactic| walk_at "fit") => `(tactic| first
  | (refine Nat.le_of_ble_eq_true ?_; rfl) | omega)
local macro_rules | `(tactic| walk_at "s") => `(tactic| first
  | with_reducible refine Z.s_seq ?_
  | with_reducible refine Z.s_set ?_
  | ((with_reducible refine' Z.s_var ?zh ?_); case zh => exact rfl)
  | with_reducible refine Z.s_c ?_
  | with_reducible refine Z.s_op ?_
  | with_reducible refine Z.s_cons ?_
  | with_reducible refine Z.s_nil ?_
  | with_reducible refine Z.s_cb ?_
  | with_reducible refine Z.s_callS ?_
  | with_reducible refine Z.s_rI0 ?_
  | with_reducible refine Z.s_add_i ?_
  | with_reducible refine Z.s_test ?_
  | with_reducible refine Z.s_zB ?_
  | with_reducible refine Z.s_if ?_
  | with_reducible refine Z.s_ret ?_
  | with_reducible refine Z.s_next ?_
  | with_reducible refine Z.s_drop ?_
  | with_reducible refine Z.s_eq_i ?_
  | with_reducible refine Z.s_ne_i ?_
  | with_reducible refine Z.s_eq_s ?_
  | with_reducible refine Z.s_ne_s ?_
  | with_reducible refine Z.s_and ?_
  | with_reducible refine Z.s_or ?_
  | with_reducible refine Z.s_not ?_
  | with_reducible refine Z.s_chain ?_
  | with_reducible refine Z.s_B ?_
  | with_reducible refine Z.s_tup ?_
  | with_reducible refine Z.s_lst ?_
  | ((with_reducible refine' Z.s_ztup ?zh ?_); case zh => exact rfl)
  | ((with_reducible refine' Z.s_zlst ?zh ?_); case zh => exact rfl)
  | with_reducible refine Z.s_un ?_
  | with_reducible refine Z.s_rU ?_
  | with_reducible refine Z.s_p18 ?_
  | with_reducible refine Z.s_min2 ?_
  | with_reducible refine Z.s_max2 ?_
  | with_reducible refine Z.s_abs ?_
  | with_reducible refine Z.s_int1 ?_
  | with_reducible refine Z.s_int1b ?_
  | with_reducible refine Z.s_bm ?_
  | with_reducible refine Z.s_bm0 ?_
  | with_reducible refine Z.s_fld ?_
  | with_reducible refine Z.s_dget ?_
  | with_reducible refine Z.s_din ?_
  | with_reducible refine Z.s_dnotin ?_
  | with_reducible refine Z.s_dnew ?_
  | with_reducible refine Z.s_dput ?_
  | with_reducible refine Z.s_disp ?_
  | with_reducible refine Z.s_asg ?_
  | with_reducible refine Z.s_gname ?_
  | with_reducible refine Z.s_gsub ?_
  | with_reducible refine Z.s_gcons ?_
  | with_reducible refine Z.s_gnil ?_
  | with_reducible refine Z.s_for ?_
  | with_reducible refine Z.s_rng1 ?_
  | with_reducible refine Z.s_rng2 ?_
  | with_reducible refine Z.s_itl ?_
  | with_reducible refine Z.s_itt ?_
  | with_reducible refine Z.s_isU_n ?_
  | with_reducible refine Z.s_notU_n ?_
  | with_reducible refine Z.s_isU_b ?_
  | with_reducible refine Z.s_notU_b ?_
  | with_reducible refine Z.s_isN_i ?_
  | with_reducible refine Z.s_isN_r ?_
  | with_reducible refine Z.s_isN_s ?_
  | with_reducible refine Z.s_isN_n ?_
  | with_reducible refine Z.s_notN_i ?_
  | with_reducible refine Z.s_notN_r ?_
  | with_reducible refine Z.s_notN_s ?_
  | with_reducible refine Z.s_notN_n ?_
  | with_reducible refine Z.s_slL ?_
  | with_reducible refine Z.s_nopart ?_
  | with_reducible refine Z.s_part ?_
  | with_reducible refine Z.s_zpart ?_
  | ((with_reducible refine' Z.s_cutL ?zh ?_); case zh => walk_at "sq")
  | with_reducible refine Z.s_ift ?_
  | with_reducible refine Z.s_iff ?_
  | with_reducible refine Z.s_nt ?_
  | with_reducible refine Z.s_nf ?_
  | with_reducible refine Z.s_zbody ?_
  | with_reducible refine Z.s_lc ?_
  | with_reducible refine Z.s_yes ?_
  | ((with_reducible refine Z.s_wipe ?zh ?_); case zh => rfl)
  | ((with_reducible refine' Z.s_zitl ?zh ?_); case zh => walk_at "sq")
  | ((with_reducible refine' Z.s_zitt ?zh ?_); case zh => walk_at "sq")
  | with_reducible refine Z.s_ifE ?_
  | with_reducible refine Z.s_andV ?_
  | with_reducible refine Z.s_orV ?_
  | with_reducible refine Z.s_notV ?_
  | with_reducible refine Z.s_retN ?_
  | with_reducible refine Z.s_break ?_
  | with_reducible refine Z.s_cont ?_
  | ((with_reducible refine Z.s_zrng1 ?zh ?_); case zh => omega)
  | ((with_reducible refine Z.s_zrng2 ?zh ?_); case zh => omega)
  | ((with_reducible refine Z.s_modp ?zh ?_); case zh => omega)
  | ((with_reducible refine Z.s_fdvp ?zh ?_); case zh => omega)
  | ((with_reducible refine Z.s_mulp ?zh ?_); case zh => omega)
  | ((with_reducible refine' Z.s_len_l ?zh ?_); case zh => walk_at "sq")
  | ((with_reducible refine' Z.s_len_t ?zh ?_); case zh => walk_at "sq")
  | ((with_reducible refine' Z.s_zTyL ?zh ?_); case zh => walk_at "hp")
  | with_reducible refine Z.s_meth ?_
  | with_reducible refine Z.s_make ?_
  | with_reducible refine Z.s_fldset ?_
  | with_reducible refine Z.s_rev ?_
  | ((with_reducible refine' Z.s_zrev ?zh ?_); case zh => walk_at "sq")
  | with_reducible refine Z.s_lstRg ?_
  | with_reducible refine Z.isi_int ?_
  | with_reducible refine Z.isi_int_bool ?_
  | ((with_reducible refine' Z.isi_list ?zh ?_); case zh => walk_at "sq")
  | ((with_reducible refine' Z.isi_tup ?zh ?_); case zh => walk_at "sq")
  | walk_at "own"
  | with_reducible refine Z.s_zTyS ?_
  | ((with_reducible refine' Z.s_zTyL' ?zh ?_); case zh => walk_at "sq")
  | ((with_reducible refine' Z.s_listof_l ?zh ?_); case zh => walk_at "sq")
  | ((with_reducible refine' Z.s_listof_t ?zh ?_); case zh => walk_at "sq")
  | ((with_reducible refine' Z.s_tupof_l ?zh ?_); case zh => walk_at "sq")
  | ((with_reducible refine' Z.s_tupof_t ?zh ?_); case zh => walk_at "sq")
  | ((with_reducible refine' Z.s_gun_t ?zh ?zl ?_); (case zh => walk_at "sq"); case zl => rfl)
  | ((with_reducible refine' Z.s_gun_l ?zh ?zl ?_); (case zh => walk_at "sq"); case zl => rfl))
local macro_rules | `(tactic| walk_at "zz") => `(tactic| repeat (walk_at "s"))
/-! ### pens and frames -/
local macro_rules | `(tactic| walk_at "st") => `(tactic| first
  | with_reducible assumption
  | ((with_reducible refine' Z.Pn.new ?zs ?zn); (case zn => with_reducible assumption); case zs => walk_at "st")
  | ((with_reducible refine' Z.Pn.same ?zs ?zn); (case zn => with_reducible assumption); case zs => walk_at "st")
  | ((with_reducible refine' Z.Pn.butN ?zs ?zb ?zn); (case zb => with_reducible assumption); (case zn => walk_at "np"); case zs => walk_at "st"))
local macro_rules | `(tactic| walk_at "np") => `(tactic| first
  | with_reducible assumption
  | ((with_reducible refine' Ne.symm ?_); with_reducible assumption)
  | ((with_reducible refine' Z.Pn.ne ?zs ?zn); (case zn => with_reducible assumption); case zs => walk_at "st")
  | ((with_reducible refine' Ne.symm (Z.Pn.ne ?zs ?zn)); (case zn => with_reducible assumption); case zs => walk_at "st")
  | ((with_reducible refine' L2.ne_of_none ?zn ?zm); (case zm => with_reducible assumption); case zn => walk_at "hp")
  | ((with_reducible refine' Ne.symm (L2.ne_of_none ?zn ?zm)); (case zm => with_reducible assumption); case zn => walk_at "hp"))
local macro_rules | `(tactic| walk_at "no") => `(tactic| first
  | with_reducible assumption
  | ((with_reducible refine' L2.Same.free ?zs ?zn); (case zn => with_reducible assumption); case zs => walk_at "sm")
  | ((with_reducible refine' Z.But.none ?zs ?zm ?zn); (case zn => with_reducible assumption); (case zs => walk_at "bt"); case zm => walk_at "np"))
local macro_rules | `(tactic| walk_at "sm") => `(tactic| first
  | with_reducible assumption
  | ((with_reducible refine' Z.same_new ?zn); (case zn => with_reducible assumption))
  | ((with_reducible refine' L2.Same.trans ?zs (Z.same_new ?zn)); (case zn => with_reducible assumption); case zs => walk_at "sm")
  | ((with_reducible refine' Z.same_own ?zs ?zb ?zn); (case zb => with_reducible assumption); (case zs => walk_at "sm"); case zn => walk_at "no")
  | ((with_reducible refine' L2.Same.trans ?zs ?zn); (case zn => with_reducible assumption); case zs => walk_at "sm")
  | with_reducible exact L2.Same.refl _)
local macro_rules | `(tactic| walk_at "bt") => `(tactic| first
  | with_reducible assumption
  | ((with_reducible refine' Z.But.new ?zs ?zn); (case zn => with_reducible assumption); case zs => walk_at "bt")
  | ((with_reducible refine' Z.But.trans ?zs ?zn); (case zn => with_reducible assumption); case zs => walk_at "bt")
  | ((with_reducible refine' Z.But.trans ?zs (Z.But.of ?zn)); (case zn => with_reducible assumption); case zs => walk_at "bt")
  | ((with_reducible refine' Z.But.own ?zs ?zb ?zn); (case zb => with_reducible assumption); (case zs => walk_at "bt"); case zn => walk_at "no")
  | with_reducible exact Z.But.refl _ _)
local macro_rules | `(tactic| walk_at "tk") => `(tactic| first
  | ((with_reducible refine' My.c_take ?zm ?zs ?_); (case zm => omega); (case zs => walk_at "st")))
/-! ### nodes in a law's text -/
local macro_rules | `(tactic| walk_at "ow") => `(tactic| first
  | exact My.own5
  | exact My.own7
  | exact My.own8 (by omega) rfl
  | exact My.own0 (by first | assumption | exact My.fig_sm (by omega))
  | exact My.own1 (by omega)
  | exact My.own2 (by omega)
  | exact My.own3 (by omega) rfl
  | exact My.own4 (m := 2) (by omega) rfl
  | exact My.own4 (m := 3) (by omega) rfl
  | exact My.own6 (n := 0) rfl rfl rfl
  | exact My.own6 (n := 1) rfl rfl rfl)
local macro_rules | `(tactic| walk_at "bi") => `(tactic| first
  | ((with_reducible refine' My.bi_nil ?zo); case zo => walk_at "ow")
  | ((with_reducible refine' My.bi_c ?zo); case zo => walk_at "ow")
  | ((with_reducible refine' My.bi_neg ?zo); case zo => walk_at "ow")
  | ((refine' My.bi_v rfl ?zo); case zo => walk_at "ow")
  | ((refine' My.bi_take rfl ?zd ?zo); (case zd => decide); case zo => (intro z z0 z1; walk_at "ow"))
  | ((refine' My.bi_num rfl ?zo); case zo => (intro z hz; exact My.own0 hz)))
local macro_rules | `(tactic| walk_at "bp") => `(tactic| first
  | with_reducible exact My.bp_nil
  | ((with_reducible refine' My.bp_cons ?zd ?zp); (case zd => walk_at "bd"); case zp => walk_at "bp"))
local macro_rules | `(tactic| walk_at "bd") => `(tactic| first
  | assumption
  | exact My.bd_var rfl (by assumption) (by assumption) (by assumption) (by omega) (by assumption)
  | ((with_reducible refine' My.bd_node (by assumption) (by decide) ?zo ?zp); (case zp => walk_at "bp"); case zo => walk_at "bi")
  | ((with_reducible refine' My.bd_loop (by assumption) ?zo ?zp); (case zp => walk_at "bp"); case zo => walk_at "bi"))
local macro_rules | `(tactic| walk_at "zn") => `(tactic| repeat ((fail_if_success (with_reducible refine Z.s_tup ?_)); walk_at "s"))
namespace My
open PySem L2 Z
theorem rd_is_whole {Z : Adr} (T : Top Z) {a0 : V} {H : Hp} {Q : VK} {E : XK} (h : q_is_whole Z a0 H Q E) : t_is_whole Z (fun cls d _ H => E cls d H) ⟨fun _ H' => Q .non H', Q, fun _ _ => False, fun _ _ => False⟩ [some a0] H := by
  unfold t_is_whole
  obtain ⟨h, q⟩ := h
  obtain ⟨t, b, c, ty, hb, hc, e⟩ := h.ty
  rw [e] at q
  walk_at "zz"
  refine s_isi (bb := b) (.ty "int") ty (kit_ty hb) ?_
  cases b
  · walk_at "zz"
    exact q
  · walk_at "zz"
    refine s_isi (bb := c) (.ty "bool") ty (kit_ty hc) ?_
    walk_at "zz"
    exact q

theorem rd_are_wholes {Z : Adr} (T : Top Z) {a0 a1 : V} {H : Hp} {Q : VK} {E : XK} (h : q_are_wholes Z a0 a1 H Q E) : t_are_wholes Z (fun cls d _ H => E cls d H) ⟨fun _ H' => Q .non H', Q, fun _ _ => False, fun _ _ => False⟩ [some a0, some a1, none, none] H := by
  unfold t_are_wholes
  obtain ⟨m, rfl, h⟩ := h
  have big : 1000000 ≤ sizeLine := by decide
  rcases h with ⟨hn, q⟩ | ⟨vs, ⟨p, rfl, hs, he⟩, hl, q⟩
  · walk_at "zz"
    intro t ht
    have S0 : Same H (upd H t (.tup [.ty "list", .ty "tuple"])) := same_new ht
    obtain ⟨tt, ty, k1, k2⟩ := (hn.same S0).ty
    refine s_isiT upd_same (.cons (.ty _) (.cons (.ty _) .nil)) ty (kit_any2 k1 k2) ?_
    walk_at "zz"
    exact q _ S0
  walk_at "zz"
  intro t ht
  have S0 : Same H (upd H t (.tup [.ty "list", .ty "tuple"])) := same_new ht
  have hs1 := seqU_same S0 hs
  refine isi_ltU upd_same hs1 ?_
  walk_at "zz"
  refine s_lenU hs1 ?_
  walk_at "zz"
  refine s_ifn (fun c => ?_) (fun c => ?_)
  · walk_at "zz"
    have := q _ S0
    rw [decide_eq_false c] at this
    exact this
  · walk_at "zz"
    refine s_iunV hs1 rfl fun k hk => ?_
    generalize upd H t (.tup [.ty "list", .ty "tuple"]) = H1 at *
    refine lc_un vs (fun D j H' => Same H1 H' ∧ H' D = some (.lst (((vs.take j).map isI).map V.bl))) (fun D hD => ⟨same_new hD, upd_same⟩) (fun D j H' hD hj h => hk.same h.1) ?_ ?_
    · rintro D j x H2 hD hx ⟨S2, h2⟩
      have hj := (List.getElem?_eq_some_iff.mp hx).1
      walk_at "zz"
      refine cl_is_whole ⟨(he x (List.mem_of_getElem? hx)).same (S0.trans S2), ?_⟩
      refine c_acc h2 (by rw [List.length_map, List.length_map, List.length_take]; omega) fun H3 B3 h3 => ⟨same_own S2 B3 hD, ?_⟩
      rw [h3, List.take_succ_eq_append_getElem hj, (List.getElem?_eq_some_iff.mp hx).2, List.map_append, List.map_append]; rfl
    · rintro D H2 hD ⟨S2, h2⟩
      rw [List.take_length] at h2
      refine s_all (SqL.of h2) ?_
      have := q _ (S0.trans S2)
      rw [decide_eq_true c, Bool.true_and] at this
      rw [List.all_map]
      exact this

theorem rd_fits_op {Z : Adr} (T : Top Z) {a0 a1 a2 a3 : V} {H : Hp} {Q : VK} {E : XK} (h : q_fits_op Z a0 a1 a2 a3 H Q E) : t_fits_op Z (fun cls d _ H => E cls d H) ⟨fun _ H' => Q .non H', Q, fun _ _ => False, fun _ _ => False⟩ [some a0, some a1, some a2, some a3] H := by
  unfold t_fits_op
  obtain ⟨op, n, fs, rs, rfl, rfl, rfl, rfl, q1, q2⟩ := h
  walk_at "zz"
  refine s_ifd (fun c => ?_) (fun c => ?_)
  · walk_at "zz"
    exact q1 (.inl c) _ (Same.refl _)
  walk_at "zz"
  intro t1 ht1
  refine s_in_t (SqT.of upd_same) rfl rfl ?_
  have S1 := same_new (o := .tup [V.int 1, .int 2]) ht1
  walk_at "zz"
  rw [show inV (.int op) [V.int 1, .int 2] = decide (op = 1 ∨ op = 2) from (inV_ints op [1, 2]).trans (by simp)]
  generalize upd H t1 (.tup [V.int 1, .int 2]) = H1 at *
  refine s_ifd (fun c1 => ?_) (fun c1 => ?_)
  · walk_at "zz"
    refine s_ifd (fun c2 => ?_) (fun c2 => ?_)
    · walk_at "zz"
      by_cases c3 : n < 12
      · rw [decide_eq_true c3]; exact q1 (.inr (.inl ⟨c1, c2, c3⟩)) _ S1
      · rw [decide_eq_false c3]; exact q2 (by unfold OpOK; omega) _ S1
    · exact q2 (by unfold OpOK; omega) _ S1
  walk_at "zz"
  intro t2 ht2
  refine s_in_t (SqT.of upd_same) rfl rfl ?_
  have S2 := S1.trans (same_new (o := .tup [V.int 4, .int 5]) ht2)
  walk_at "zz"
  rw [show inV (.int op) [V.int 4, .int 5] = decide (op = 4 ∨ op = 5) from (inV_ints op [4, 5]).trans (by simp)]
  generalize upd H1 t2 (.tup [V.int 4, .int 5]) = H2 at *
  refine s_ifd (fun c4 => ?_) (fun c4 => ?_)
  · walk_at "zz"
    refine s_ifd (fun c2 => ?_) (fun c2 => ?_)
    · walk_at "zz"
      by_cases c3 : n < rs
      · rw [decide_eq_true c3]; exact q1 (.inr (.inr (.inl ⟨c4, c2, c3⟩))) _ S2
      · rw [decide_eq_false c3]; exact q2 (by unfold OpOK; omega) _ S2
    · exact q2 (by unfold OpOK; omega) _ S2
  walk_at "zz"
  refine s_ifd (fun c6 => ?_) (fun c6 => ?_)
  · walk_at "zz"
    refine s_ifd (fun c2 => ?_) (fun c2 => ?_)
    · walk_at "zz"
      by_cases c3 : n < fs
      · rw [decide_eq_true c3]; exact q1 (.inr (.inr (.inr (.inl ⟨c6, c2, c3⟩)))) _ S2
      · rw [decide_eq_false c3]; exact q2 (by unfold OpOK; omega) _ S2
    · exact q2 (by unfold OpOK; omega) _ S2
  walk_at "zz"
  intro t3 ht3
  refine s_in_t (SqT.of upd_same) rfl rfl ?_
  have S3 := S2.trans (same_new (o := .tup [V.int 3, .int 7, .int 8, .int 9]) ht3)
  walk_at "zz"
  rw [show inV (.int op) [V.int 3, .int 7, .int 8, .int 9] = decide (op = 3 ∨ op = 7 ∨ op = 8 ∨ op = 9) from (inV_ints op [3, 7, 8, 9]).trans (by simp)]
  generalize upd H2 t3 (.tup [V.int 3, .int 7, .int 8, .int 9]) = H3 at *
  refine s_ifd (fun c7 => ?_) (fun c7 => ?_)
  · walk_at "zz"
    by_cases c3 : n = 0
    · rw [decide_eq_true c3]; exact q1 (.inr (.inr (.inr (.inr (.inl ⟨c7, c3⟩))))) _ S3
    · rw [decide_eq_false c3]; exact q2 (by unfold OpOK; omega) _ S3
  walk_at "zz"
  refine s_ifd (fun c10 => ?_) (fun c10 => ?_)
  · walk_at "zz"
    refine s_ifd (fun c2 => ?_) (fun c2 => ?_)
    · walk_at "zz"
      by_cases c3 : n ≤ 19
      · rw [decide_eq_true c3]; exact q1 (.inr (.inr (.inr (.inr (.inr (.inl ⟨c10, c2, c3⟩)))))) _ S3
      · rw [decide_eq_false c3]; exact q2 (by unfold OpOK; omega) _ S3
    · exact q2 (by unfold OpOK; omega) _ S3
  walk_at "zz"
  refine s_ifd (fun c11 => ?_) (fun c11 => ?_)
  · walk_at "zz"
    refine s_ifd (fun c2 => ?_) (fun c2 => ?_)
    · walk_at "zz"
      by_cases c3 : n ≤ 12
      · rw [decide_eq_true c3]; exact q1 (.inr (.inr (.inr (.inr (.inr (.inr ⟨c11, c2, c3⟩)))))) _ S3
      · rw [decide_eq_false c3]; exact q2 (by unfold OpOK; omega) _ S3
    · exact q2 (by unfold OpOK; omega) _ S3
  · exact q2 (by unfold OpOK; omega) _ S3

theorem rd_fits_head {Z : Adr} (T : Top Z) {a0 a1 a2 : V} {H : Hp} {Q : VK} {E : XK} (h : q_fits_head Z a0 a1 a2 H Q E) : t_fits_head Z (fun cls d _ H => E cls d H) ⟨fun _ H' => Q .non H', Q, fun _ _ => False, fun _ _ => False⟩ [some a0, some a1, some a2, none, none, none] H := by
  unfold t_fits_head
  obtain ⟨x, i, m, ⟨t, rfl, hs⟩, hx, rfl, rfl, q1, q2⟩ := h
  obtain ⟨s, p, b, rfl⟩ : ∃ s p b, x = [s, p, b] := by
    match x, hx with
    | [s, p, b], _ => exact ⟨s, p, b, rfl⟩
  have no : ¬ (0 ≤ s ∧ s < m ∧ 0 ≤ p ∧ p ≤ (if 0 < i then 4 else 0) ∧ p ≤ b ∧ b ≤ 12) → Q (.bl false) H := fun z => q2 (by
    rintro ⟨s', p', b', e, c⟩
    cases e
    exact z c)
  walk_at "zz"
  refine s_gunU (xs := [.int s, .int p, .int b]) hs rfl ?_
  walk_at "zz"
  refine s_ifd (fun c1 => ?_) (fun c1 => ?_)
  rotate_left
  · walk_at "zz"
    exact no (by omega)
  walk_at "zz"
  refine s_ifn (fun c2 => ?_) (fun c2 => ?_)
  · walk_at "zz"
    exact no (by omega)
  walk_at "zz"
  refine s_ifd (D := 0 ≤ p) (fun c3 => ?_) (fun c3 => ?_)
  rotate_left
  · walk_at "zz"
    exact no (by omega)
  walk_at "zz"
  rw [show (4 : Int) * (if decide ((0 : Int) < (i : Int)) = true then 1 else 0) = if 0 < i then 4 else 0 by
    by_cases z : 0 < i
    · rw [if_pos z, if_pos (by simpa using z)]; rfl
    · rw [if_neg z, if_neg (by simpa using z)]; rfl]
  by_cases c4 : p ≤ (if 0 < i then 4 else 0)
  rotate_left
  · rw [decide_eq_false c4]
    walk_at "zz"
    exact no (fun z => c4 z.2.2.2.1)
  rw [decide_eq_true c4]
  walk_at "zz"
  refine s_ifd (fun c5 => ?_) (fun c5 => ?_)
  rotate_left
  · exact no (by omega)
  walk_at "zz"
  by_cases c6 : b ≤ 12
  · rw [decide_eq_true c6]
    exact q1 ⟨s, p, b, rfl, c1, c2, c3, c4, c5, c6⟩
  · rw [decide_eq_false c6]
    exact no (by omega)

theorem rd_make_code {Z : Adr} (T : Top Z) {a0 a1 : V} {H : Hp} {Q : VK} {E : XK} (h : q_make_code Z a0 a1 H Q E) : t_make_code Z (fun cls d _ H => E cls d H) ⟨fun _ H' => Q .non H', Q, fun _ _ => False, fun _ _ => False⟩ [some a0, some a1, none, none, none] H := by
  unfold t_make_code
  obtain ⟨hs, rs, ⟨lh, vh, rfl, eh, rh⟩, ⟨lr, vr, rfl, er, rr⟩, h3, r2, hh, hr, q1, q2⟩ := h
  have lenh := rh.len
  have lenr := rr.len
  walk_at "zz"
  refine s_lenU eh ?_
  walk_at "zz"
  rw [lenh]
  refine s_ifd (fun c1 => ?_) (fun c1 => ?_)
  rotate_left
  · walk_at "zz"
    exact q2 (fun C => by have := C.h1; omega) _ (Same.refl _)
  walk_at "zz"
  by_cases c2 : (hs.length : Int) ≤ 16
  rotate_left
  · rw [decide_eq_false c2]
    walk_at "zz"
    exact q2 (fun C => by have := C.h16; omega) _ (Same.refl _)
  rw [decide_eq_true c2]
  walk_at "zz"
  refine s_lenU er ?_
  walk_at "zz"
  rw [lenr]
  refine s_ifd (fun c3 => ?_) (fun c3 => ?_)
  · walk_at "zz"
    exact q2 (fun C => by have := C.r1; omega) _ (Same.refl _)
  walk_at "zz"
  refine s_lenU eh ?_
  walk_at "zz"
  rw [lenh]
  refine loop_range (fun i σ' H' => H = H' ∧ (∀ j h, j < i → hs[j]? = some h → HeadOK h j rs.length) ∧ ∃ x, σ' = [some (.ref lh), some (.ref lr), x, none, none]) ⟨rfl, fun j h hj => by omega, _, rfl⟩ ?_ ?_
  · rintro i σ' H' hi ⟨rfl, hd, x, rfl⟩
    have hi' : i < hs.length := by omega
    obtain ⟨v, ev, t, rfl, ht⟩ := rh.get (List.getElem?_eq_getElem hi')
    walk_at "zz"
    rw [show (0 : Int) + (i : Int) = i by omega]
    refine s_ixU eh (atI_nat ev) ?_
    walk_at "zz"
    refine s_lenU er ?_
    walk_at "zz"
    rw [lenr]
    refine cl_fits_head ⟨hs[i], i, rs.length, ⟨t, rfl, ht⟩, h3 _ (List.getElem_mem _), rfl, rfl, fun ok => ?_, fun no => ?_⟩
    · walk_at "zz"
      refine ⟨rfl, fun j h hj e => ?_, _, rfl⟩
      by_cases c : j = i
      · subst c
        rw [List.getElem?_eq_getElem hi'] at e
        cases e; exact ok
      · exact hd j h (by omega) e
    · walk_at "zz"
      exact q2 (fun C => no (C.hd i _ (List.getElem?_eq_getElem hi'))) _ (Same.refl _)
  · rintro σ' H' ⟨rfl, hd, x, rfl⟩
    have hd' : ∀ j h, hs[j]? = some h → HeadOK h j rs.length := fun j h e => hd j h (by have := (List.getElem?_eq_some_iff.mp e).1; omega) e
    walk_at "zz"
    refine s_iunV er rfl fun k hk => ?_
    refine loop_un vr (fun i σ' H' => Same H H' ∧ (∀ j r, j < i → rs[j]? = some r → RowOK r hs.length rs.length) ∧ ∃ x3 x4, σ' = [some (.ref lh), some (.ref lr), x, x3, x4]) ⟨Same.refl _, fun j h hj => by omega, _, _, rfl⟩ (fun i σ' H' hi h => hk.same h.1) ?_ ?_
    · rintro i v σ' H2 hv ⟨S2, hr2, x3, x4, rfl⟩
      obtain ⟨r, e, t, rfl, ht⟩ := rr.getv hv
      obtain ⟨op, n, rfl⟩ : ∃ op n, r = [op, n] := by
        have := r2 r (List.mem_of_getElem? e)
        match r, this with
        | [op, n], _ => exact ⟨op, n, rfl⟩
      have eh2 := seqU_same S2 eh
      have er2 := seqU_same S2 er
      walk_at "zz"
      refine s_gunU (xs := [.int op, .int n]) (seqU_same S2 ht) rfl ?_
      walk_at "zz"
      refine s_lenU eh2 ?_
      walk_at "zz"
      refine s_lenU er2 ?_
      walk_at "zz"
      rw [lenh, lenr]
      refine cl_fits_op ⟨op, n, hs.length, rs.length, rfl, rfl, rfl, rfl, fun ok H3 S3 => ?_, fun no H3 S3 => ?_⟩
      · walk_at "zz"
        refine ⟨S2.trans S3, fun j h hj e2 => ?_, _, _, rfl⟩
        by_cases c : j = i
        · subst c
          rw [e] at e2
          cases e2; exact ⟨op, n, rfl, ok⟩
        · exact hr2 j h (by omega) e2
      · walk_at "zz"
        refine q2 (fun C => ?_) _ (S2.trans S3)
        obtain ⟨a, b, e2, ok⟩ := C.rw _ (List.mem_of_getElem? e)
        cases e2
        exact no ok
    · rintro σ' H2 ⟨S2, hr2, x3, x4, rfl⟩
      walk_at "zz"
      refine q1 ⟨by omega, by omega, by omega, hd', fun r hr => ?_⟩ _ S2
      obtain ⟨j, hj⟩ := List.mem_iff_getElem?.mp hr
      exact hr2 j r (by have := (List.getElem?_eq_some_iff.mp hj).1; rw [lenr]; exact this) hj

theorem rd_cut_up {Z : Adr} (T : Top Z) {a0 a1 : V} {H : Hp} {Q : VK} {E : XK} (h : q_cut_up Z a0 a1 H Q E) : t_cut_up Z (fun cls d _ H => E cls d H) ⟨fun _ H' => Q .non H', Q, fun _ _ => False, fun _ _ => False⟩ [some a0, some a1, none, none] H := by
  unfold t_cut_up
  obtain ⟨l, xs, n, rfl, rfl, hn, hn2, hx, hl, q⟩ := h
  have big : 1000000 ≤ sizeLine := by decide
  walk_at "zz"
  intro lf hlf
  have hl1 := (same_new (o := .lst []) hlf).seq hl
  walk_at "zz"
  rw [List.length_map]
  walk_at "zz"
  have hd : xs.length / n ≤ xs.length := Nat.div_le_self _ _
  have hM2 := Nat.div_mul_le_self xs.length n
  obtain ⟨M, hM⟩ : ∃ M, M = xs.length / n := ⟨_, rfl⟩
  rw [show ((xs.length : Int) / (n : Int)) = ((xs.length / n : Nat) : Int) from (Int.natCast_ediv _ _).symm]
  rw [← hM] at hd hM2 ⊢
  refine s_zrng1 (by omega) ?_
  rw [Int.toNat_natCast]
  refine loop_range (fun i σ' H' => Same H H' ∧ (∃ vs, H' lf = some (.lst vs) ∧ TupsAt H' ((cutUp n xs).take i) vs) ∧ ∃ x, σ' = [some (.ref l), some (.int n), some (.ref lf), x]) ⟨same_new hlf, ⟨[], upd_same, Row.nil⟩, _, rfl⟩ ?_ ?_
  · rintro i σ' H2 hi ⟨S2, ⟨vs, h2, r2⟩, x, rfl⟩
    have hl2 := S2.seq hl
    have e3 : (i + 1) * n ≤ xs.length := Nat.le_trans (Nat.mul_le_mul_right n (by omega)) hM2
    have e4 : i * n ≤ 100000 := by rw [Nat.add_mul] at e3; omega
    rw [show (0 : Int) + (i : Int) = i by omega]
    walk_at "zz"
    rw [show (i : Int) * (n : Int) = ((i * n : Nat) : Int) by simp]
    rw [show ((i * n : Nat) : Int) + (n : Int) = (((i + 1) * n : Nat) : Int) by rw [Nat.add_mul, Nat.one_mul]; simp]
    intro ls hls
    walk_at "zz"
    refine s_tupof_l (SqL.of upd_same) fun lt hlt => ?_
    have S3 := (same_new (o := .lst (cutV (xs.map V.int) (some ((i * n : Nat) : Int)) (some (((i + 1) * n : Nat) : Int)))) hls).trans (same_new (o := .tup (cutV (xs.map V.int) (some ((i * n : Nat) : Int)) (some (((i + 1) * n : Nat) : Int)))) hlt)
    have ec : cutV (xs.map V.int) (some ((i * n : Nat) : Int)) (some (((i + 1) * n : Nat) : Int)) = ((xs.drop (i * n)).take n).map V.int := by
      rw [cut_nat (by rw [Nat.add_mul]; omega) (by rw [List.length_map]; exact e3), List.map_take, List.map_drop]
      congr 1
      rw [Nat.add_mul]; omega
    have ht : upd (upd H2 ls (.lst (cutV (xs.map V.int) (some ((i * n : Nat) : Int)) (some (((i + 1) * n : Nat) : Int))))) lt (.tup (cutV (xs.map V.int) (some ((i * n : Nat) : Int)) (some (((i + 1) * n : Nat) : Int)))) lt = some (.tup (((xs.drop (i * n)).take n).map V.int)) := by rw [upd_same, ec]
    have hlf3 := S3 _ _ h2
    have r3 := r2.mono (TupS.of S3)
    generalize upd (upd H2 ls (.lst (cutV (xs.map V.int) (some ((i * n : Nat) : Int)) (some (((i + 1) * n : Nat) : Int))))) lt (.tup (cutV (xs.map V.int) (some ((i * n : Nat) : Int)) (some (((i + 1) * n : Nat) : Int)))) = H3 at *
    have lv := r2.len
    rw [List.length_take, cutUp_len] at lv
    walk_at "zz"
    refine c_append hlf3 (by omega) fun H4 B4 h4 => ?_
    walk_at "zz"
    have T4 := TupS.butL B4 hlf3
    refine ⟨same_own (S2.trans S3) B4 hlf, ⟨_, h4, ?_⟩, _, rfl⟩
    have hi2 : i < (cutUp n xs).length := by rw [cutUp_len, ← hM]; exact hi
    rw [List.take_succ_eq_append_getElem hi2]
    refine (r3.mono T4).app ⟨lt, rfl, T4 _ _ (by rw [ht, (cutUp_get (List.getElem?_eq_getElem hi2)).2])⟩
  · rintro σ' H2 ⟨S2, ⟨vs, h2, r2⟩, x, rfl⟩
    walk_at "zz"
    rw [hM, ← cutUp_len, List.take_length] at r2
    exact q _ _ _ S2 hlf h2 r2

theorem rd_parted_code {Z : Adr} (T : Top Z) {a0 : V} {H : Hp} {Q : VK} {E : XK} (h : q_parted_code Z a0 H Q E) : t_parted_code Z (fun cls d _ H => E cls d H) ⟨fun _ H' => Q .non H', Q, fun _ _ => False, fun _ _ => False⟩ [some a0, none, none, none] H := by
  unfold t_parted_code
  rcases h with ⟨l, xs, rfl, hl, hx, q1, q2⟩ | ⟨ho, q⟩
  rotate_left
  · rcases ho with hn | ⟨p, vs, rfl, ht⟩ | ⟨p, vs, rfl, hl, he, hle, hb⟩
    · obtain ⟨t, ty, k1, k2⟩ := hn.ty
      walk_at "zz"
      refine s_isi (bb := false) (.ty "list") ty (kit_ty k1) ?_
      walk_at "zz"
      refine s_raiseN ?_
      exact q _ (Same.refl _)
    · walk_at "zz"
      refine s_isi (bb := false) (.ty "list") (tyx_t ht) (kit_ty (by decide +kernel)) ?_
      walk_at "zz"
      refine s_raiseN ?_
      exact q _ (Same.refl _)
    · have big : 1000000 ≤ sizeLine := by decide
      walk_at "zz"
      refine s_ifd (fun c0 => ?_) (fun c0 => ?_)
      · walk_at "zz"
        refine s_raiseN ?_
        exact q _ (Same.refl _)
      walk_at "zz"
      refine cl_are_wholes ⟨vs.length, rfl, .inr ⟨vs, ⟨p, rfl, .inl hl, he⟩, hle, fun H1 S1 => ?_⟩⟩
      rcases hb with hb | hb
      · subst hb; exact absurd rfl c0
      · rw [hb, Bool.and_false]
        walk_at "zz"
        refine s_raiseN ?_
        exact q _ S1
  have big : 1000000 ≤ sizeLine := by decide
  walk_at "zz"
  rw [List.length_map]
  refine s_ifd (fun c0 => ?_) (fun c0 => ?_)
  · walk_at "zz"
    refine s_raiseN ?_
    exact q2 (fun hs rs I => by
      have e := I.2
      have : xs.length = 0 := by omega
      rw [e] at this
      simp [codeL] at this) _ (Same.refl _)
  walk_at "zz"
  rw [List.length_map]
  refine cl_are_wholes (wholes_ints ⟨l, rfl, .inl hl⟩ rfl hx fun H1 S1 => ?_)
  rw [decide_eq_true rfl]
  walk_at "zz"
  have hl1 := S1.seq hl
  obtain ⟨x0, r0, ex⟩ : ∃ x r, xs = x :: r := by
    cases xs with
    | nil => exact absurd rfl c0
    | cons x r => exact ⟨x, r, rfl⟩
  refine s_ix_l (v := .int x0) hl1 (atI_nat (j := 0) (by rw [ex]; rfl)) ?_
  have no : (∀ m : Nat, ¬ PartOK xs m) → ∀ hs rs, ¬ IsCode xs hs rs := fun z hs rs I => z _ I.part.1
  have hd0 : xs[0]? = some x0 := by rw [ex]; rfl
  walk_at "zz"
  refine s_ifd (fun c1 => ?_) (fun c1 => ?_)
  rotate_left
  · walk_at "zz"
    refine s_raiseN ?_
    refine q2 (no fun m P => ?_) _ S1
    have := hd0.symm.trans P.1
    injection this with this
    have := P.2.1
    omega
  walk_at "zz"
  refine s_ifn (fun c2 => ?_) (fun c2 => ?_)
  · walk_at "zz"
    refine s_raiseN ?_
    refine q2 (no fun m P => ?_) _ S1
    have := hd0.symm.trans P.1
    injection this with this
    have := P.2.2.1
    omega
  obtain ⟨m, rfl⟩ : ∃ m : Nat, x0 = (m : Int) := ⟨x0.toNat, by omega⟩
  have only : ∀ m', PartOK xs m' → m' = m := fun m' P => by
    have := hd0.symm.trans P.1
    injection this with this
    omega
  walk_at "zz"
  rw [List.length_map]
  refine s_ifd (fun c3 => ?_) (fun c3 => ?_)
  · walk_at "zz"
    refine s_raiseN ?_
    refine q2 (no fun m' P => ?_) _ S1
    cases only m' P
    have := P.2.2.2.1
    omega
  walk_at "zz"
  rw [List.length_map]
  walk_at "zz"
  refine s_ifd (fun c4 => ?_) (fun c4 => ?_)
  · walk_at "zz"
    refine s_raiseN ?_
    refine q2 (no fun m' P => ?_) _ S1
    cases only m' P
    have := P.2.2.2.2
    omega
  have P : PartOK xs m := ⟨hd0, by omega, by omega, by omega, by omega⟩
  walk_at "zz"
  intro la hla
  have S2 := S1.trans (same_new (o := .lst (cutV (xs.map V.int) (some 1) (some (3 * (m : Int) + 1)))) hla)
  have ea : cutV (xs.map V.int) (some 1) (some (3 * (m : Int) + 1)) = ((xs.drop 1).take (3 * m)).map V.int := by
    rw [show (3 * (m : Int) + 1) = ((3 * m + 1 : Nat) : Int) by omega, show (1 : Int) = ((1 : Nat) : Int) from rfl, cut_nat (by omega) (by rw [List.length_map]; omega), List.map_take, List.map_drop]
    congr 1
  refine cl_cut_up ⟨la, (xs.drop 1).take (3 * m), 3, rfl, rfl, by omega, by omega, by rw [List.length_take, List.length_drop]; omega, SqL.of (by rw [upd_same, ea]), fun lh vh H3 S3 hlh0 hlh th => ?_⟩
  have S03 := S2.trans S3
  have hl3 := S03.seq hl
  walk_at "zz"
  intro lb hlb
  have S4 := S03.trans (same_new (o := .lst (cutV (xs.map V.int) (some (3 * (m : Int) + 1)) none)) hlb)
  have eb : cutV (xs.map V.int) (some (3 * (m : Int) + 1)) none = (xs.drop (3 * m + 1)).map V.int := by
    rw [show (3 * (m : Int) + 1) = ((3 * m + 1 : Nat) : Int) by omega]
    exact cut_dropI _ _
  refine cl_cut_up ⟨lb, xs.drop (3 * m + 1), 2, rfl, rfl, by omega, by omega, by rw [List.length_drop]; omega, SqL.of (by rw [upd_same, eb]), fun lr vr H5 S5 hlr0 hlr tr => ?_⟩
  have S45 := (same_new (o := .lst (cutV (xs.map V.int) (some (3 * (m : Int) + 1)) none)) hlb).trans S5
  have S05 := S03.trans S45
  have hlh5 := S45 _ _ hlh
  have th5 := th.mono (TupS.of S45)
  have lh1 : (cutH xs m).length = m := by unfold cutH; rw [cutUp_len, List.length_take, List.length_drop]; omega
  have lr1 : (cutR xs m).length ≤ 100000 := by unfold cutR; rw [cutUp_len, List.length_drop]; omega
  have hne : lh ≠ lr := ne_of_none (same_new hlb _ _ hlh) hlr0
  walk_at "zz"
  refine cl_make_code ⟨cutH xs m, cutR xs m, ⟨lh, vh, rfl, .inl (SqL.of hlh5), th5.imp fun _ _ _ z => z.seq⟩, ⟨lr, vr, rfl, .inl (SqL.of hlr), tr.imp fun _ _ _ z => z.seq⟩, fun _ z => cutUp_all z, fun _ z => cutUp_all z, by omega, lr1, fun C H6 S6 => ?_, fun C H6 S6 => ?_⟩
  · walk_at "zz"
    intro t ht
    have I := part_code P C
    have S7 := S6.trans (same_new (o := .tup [.ref lh, .ref lr]) ht)
    refine q1 _ _ I t lh lr _ (S05.trans S7) upd_same hne ⟨S2.free hlh0, vh, S7 _ _ hlh5, th5.mono (TupS.of S7)⟩ ⟨S4.free hlr0, vr, S7 _ _ hlr, tr.mono (TupS.of S7)⟩
  · walk_at "zz"
    refine s_raiseN ?_
    exact q2 (code_no P C) _ (S05.trans S6)

theorem rd_is_code {Z : Adr} (T : Top Z) {a0 : V} {H : Hp} {Q : VK} {E : XK} (h : q_is_code Z a0 H Q E) : t_is_code Z (fun cls d _ H => E cls d H) ⟨fun _ H' => Q .non H', Q, fun _ _ => False, fun _ _ => False⟩ [some a0, none] H := by
  unfold t_is_code
  rcases h with ⟨l, xs, rfl, hl, hx, ⟨hs, rs, I⟩, q⟩ | ⟨hn, q⟩
  · walk_at "zz"
    refine s_tryOnly ?_
    walk_at "zz"
    refine cl_parted_code (.inl ⟨l, xs, rfl, hl, hx, fun hs rs I t lh lr H' S ht hne Th Tr => ?_, fun no H' S => absurd I (no _ _)⟩)
    walk_at "zz"
    exact q _ S
  · walk_at "zz"
    refine s_tryOnly ?_
    walk_at "zz"
    rcases hn with ho | ⟨l, xs, rfl, hl, hx, no⟩
    · refine cl_parted_code (.inr ⟨ho, fun H' S => ?_⟩)
      refine ⟨true, T.ex_NoCode_NoCode, fun _ a ha => ?_, fun z => by cases z⟩
      walk_at "zz"
      exact q _ S
    · refine cl_parted_code (.inl ⟨l, xs, rfl, hl, hx, fun hs rs I => absurd I (no _ _), fun no H' S => ?_⟩)
      refine ⟨true, T.ex_NoCode_NoCode, fun _ a ha => ?_, fun z => by cases z⟩
      walk_at "zz"
      exact q _ S

theorem rd_heads_of {Z : Adr} (T : Top Z) {a0 : V} {H : Hp} {Q : VK} {E : XK} (h : q_heads_of Z a0 H Q E) : t_heads_of Z (fun cls d _ H => E cls d H) ⟨fun _ H' => Q .non H', Q, fun _ _ => False, fun _ _ => False⟩ [some a0] H := by
  unfold t_heads_of
  rcases h with ⟨l, xs, hs, rs, rfl, hl, hx, I, q⟩ | ⟨hn, q⟩
  rotate_left
  · walk_at "zz"
    rcases hn with ho | ⟨l, xs, rfl, hl, hx, no⟩
    · refine cl_parted_code (.inr ⟨ho, fun H' S => ?_⟩)
      exact q _ S
    · refine cl_parted_code (.inl ⟨l, xs, rfl, hl, hx, fun hs rs I => absurd I (no _ _), fun no H' S => ?_⟩)
      exact q _ S
  walk_at "zz"
  refine cl_parted_code (.inl ⟨l, xs, rfl, hl, hx, fun hs2 rs2 I2 t lh lr H' S ht hne Th Tr => ?_, fun no => absurd I (no _ _)⟩)
  obtain ⟨_, e1, e2⟩ := I.part
  obtain ⟨P2, e3, e4⟩ := I2.part
  rw [← part_uniq I.part.1 P2, e1] at e3
  subst e3
  refine s_ix_t (SqT.of ht) (v := .ref lh) rfl ?_
  exact q lh H' S Th

theorem rd_rows_of {Z : Adr} (T : Top Z) {a0 : V} {H : Hp} {Q : VK} {E : XK} (h : q_rows_of Z a0 H Q E) : t_rows_of Z (fun cls d _ H => E cls d H) ⟨fun _ H' => Q .non H', Q, fun _ _ => False, fun _ _ => False⟩ [some a0] H := by
  unfold t_rows_of
  rcases h with ⟨l, xs, hs, rs, rfl, hl, hx, I, q⟩ | ⟨hn, q⟩
  rotate_left
  · walk_at "zz"
    rcases hn with ho | ⟨l, xs, rfl, hl, hx, no⟩
    · refine cl_parted_code (.inr ⟨ho, fun H' S => ?_⟩)
      exact q _ S
    · refine cl_parted_code (.inl ⟨l, xs, rfl, hl, hx, fun hs rs I => absurd I (no _ _), fun no H' S => ?_⟩)
      exact q _ S
  walk_at "zz"
  refine cl_parted_code (.inl ⟨l, xs, rfl, hl, hx, fun hs2 rs2 I2 t lh lr H' S ht hne Th Tr => ?_, fun no => absurd I (no _ _)⟩)
  obtain ⟨_, e1, e2⟩ := I.part
  obtain ⟨P2, e3, e4⟩ := I2.part
  rw [← part_uniq I.part.1 P2, e2] at e4
  subst e4
  refine s_ix_t (SqT.of ht) (v := .ref lr) rfl ?_
  exact q lr H' S Tr

theorem rd_code_of {Z : Adr} (T : Top Z) {a0 a1 : V} {H : Hp} {Q : VK} {E : XK} (h : q_code_of Z a0 a1 H Q E) : t_code_of Z (fun cls d _ H => E cls d H) ⟨fun _ H' => Q .non H', Q, fun _ _ => False, fun _ _ => False⟩ [some a0, some a1, none, none, none, none] H := by
  unfold t_code_of
  rcases h with h | ⟨h, q⟩
  rotate_left
  · have big : 1000000 ≤ sizeLine := by decide
    rcases h with (⟨hn, hb⟩ | ⟨ha, hn⟩ | ⟨os, qs, ⟨la, va, rfl, ea, ra⟩, ⟨lb, vb, rfl, eb, rb⟩, lo, lq, bad⟩) | ⟨hs, rs, ⟨lh, vh, rfl, eh, rh⟩, ⟨lr, vr, rfl, er, rr⟩, h3, r2, hl3, rl2, nC⟩
    · walk_at "zz"
      intro t1 ht1
      obtain ⟨tt, ty, k1, k2⟩ := (hn.same (same_new (o := .tup [.ty "list", .ty "tuple"]) ht1)).ty
      refine s_isiT (bb := false) upd_same (.cons (.ty _) (.cons (.ty _) .nil)) ty (kit_any2 k1 k2) ?_
      walk_at "zz"
      refine s_raiseN ?_
      exact q _ (same_new ht1)
    · walk_at "zz"
      intro t1 ht1
      have S1 := same_new (o := .tup [.ty "list", .ty "tuple"]) ht1
      obtain ⟨tt, b1, b2, ty, k1, k2⟩ := (ha.same S1).ty2
      refine s_isiT upd_same (.cons (.ty _) (.cons (.ty _) .nil)) ty (kit_any2 k1 k2) ?_
      generalize (b1 || b2) = bb
      cases bb
      · walk_at "zz"
        refine s_raiseN ?_
        exact q _ S1
      · walk_at "zz"
        intro t2 ht2
        have S2 := S1.trans (same_new (o := .tup [.ty "list", .ty "tuple"]) ht2)
        obtain ⟨tt, ty, k1, k2⟩ := (hn.same S2).ty
        refine s_isiT (bb := false) upd_same (.cons (.ty _) (.cons (.ty _) .nil)) ty (kit_any2 k1 k2) ?_
        walk_at "zz"
        refine s_raiseN ?_
        exact q _ S2
    · have la := ra.len
      have lb := rb.len
      obtain ⟨ka, ea⟩ := SqB.of ea
      obtain ⟨kb, eb⟩ := SqB.of eb
      walk_at "zz"
      intro t1 ht1
      have S1 := same_new (o := .tup [.ty "list", .ty "tuple"]) ht1
      refine isi_ltU upd_same (ea.same S1).or ?_
      walk_at "zz"
      intro t2 ht2
      have S2 := S1.trans (same_new (o := .tup [.ty "list", .ty "tuple"]) ht2)
      refine isi_ltU upd_same (eb.same S2).or ?_
      generalize upd (upd H t1 (.tup [.ty "list", .ty "tuple"])) t2 (.tup [.ty "list", .ty "tuple"]) = H2 at *
      walk_at "zz"
      refine s_iunB (ea.same S2) rfl ?_
      refine lc_un va (fun D j H' => Same H2 H' ∧ H' D = some (.lst (((os.take j).map (goodR 3)).map V.bl))) (fun D hD => ⟨same_new hD, upd_same⟩) (fun D j H' hD hj h => ea.same (S2.trans h.1)) ?_ ?_
      · rintro D j v H3 hD hv ⟨S3, h3⟩
        obtain ⟨o, ho, hA⟩ := ra.getv hv
        have hj := (List.getElem?_eq_some_iff.mp ho).1
        have hA := hA.same (S2.trans S3)
        have acc : ∀ (H4 : Hp), Same H3 H4 → zAcc D (.bl (goodR 3 o)) H4 fun H' => Same H2 H' ∧ H' D = some (.lst (((os.take (j + 1)).map (goodR 3)).map V.bl)) := fun H4 S4 => by
          refine c_acc (S4 _ _ h3) (by rw [List.length_map, List.length_map, List.length_take]; omega) fun H5 B5 h5 => ⟨same_own (S3.trans S4) B5 hD, ?_⟩
          rw [h5, List.take_succ_eq_append_getElem hj, (List.getElem?_eq_some_iff.mp ho).2, List.map_append, List.map_append]; rfl
        walk_at "zz"
        cases o with
        | none => exact cl_are_wholes ⟨3, rfl, .inl ⟨hA, fun H4 S4 => acc H4 S4⟩⟩
        | some vs => exact cl_are_wholes ⟨3, rfl, .inr ⟨vs, hA.1, by have := hA.2; omega, fun H4 S4 => acc H4 S4⟩⟩
      rintro D H3 hD ⟨S3, h3⟩
      rw [show va.length = os.length from ra.len, List.take_length] at h3
      walk_at "zz"
      refine s_all (SqL.of h3) ?_
      have S03 := S2.trans S3
      rw [List.all_map]
      cases e1 : os.all (id ∘ goodR 3)
      · walk_at "zz"
        refine s_raiseN ?_
        exact q _ S03
      have e2 : qs.all (id ∘ goodR 2) = false := bad.resolve_left (by rw [show os.all (goodR 3) = true from e1]; decide)
      walk_at "zz"
      refine s_iunB (eb.same S03) rfl ?_
      refine lc_un vb (fun D j H' => Same H3 H' ∧ H' D = some (.lst (((qs.take j).map (goodR 2)).map V.bl))) (fun D hD => ⟨same_new hD, upd_same⟩) (fun D j H' hD hj h => eb.same (S03.trans h.1)) ?_ ?_
      · rintro D j v H4 hD hv ⟨S4, h4⟩
        obtain ⟨o, ho, hA⟩ := rb.getv hv
        have hj := (List.getElem?_eq_some_iff.mp ho).1
        have hA := hA.same (S03.trans S4)
        have acc : ∀ (H5 : Hp), Same H4 H5 → zAcc D (.bl (goodR 2 o)) H5 fun H' => Same H3 H' ∧ H' D = some (.lst (((qs.take (j + 1)).map (goodR 2)).map V.bl)) := fun H5 S5 => by
          refine c_acc (S5 _ _ h4) (by rw [List.length_map, List.length_map, List.length_take]; omega) fun H6 B6 h6 => ⟨same_own (S4.trans S5) B6 hD, ?_⟩
          rw [h6, List.take_succ_eq_append_getElem hj, (List.getElem?_eq_some_iff.mp ho).2, List.map_append, List.map_append]; rfl
        walk_at "zz"
        cases o with
        | none => exact cl_are_wholes ⟨2, rfl, .inl ⟨hA, fun H4 S4 => acc H4 S4⟩⟩
        | some vs => exact cl_are_wholes ⟨2, rfl, .inr ⟨vs, hA.1, by have := hA.2; omega, fun H4 S4 => acc H4 S4⟩⟩
      rintro D2 H4 hD2 ⟨S4, h4⟩
      rw [show vb.length = qs.length from rb.len, List.take_length] at h4
      walk_at "zz"
      refine s_all (SqL.of h4) ?_
      rw [List.all_map, e2]
      walk_at "zz"
      refine s_raiseN ?_
      exact q _ (S03.trans S4)
    · obtain ⟨kh, eh⟩ := SqB.of eh
      obtain ⟨kr, er⟩ := SqB.of er
      walk_at "zz"
      intro t1 ht1
      have S1 := same_new (o := .tup [.ty "list", .ty "tuple"]) ht1
      refine isi_ltU upd_same (eh.same S1).or ?_
      walk_at "zz"
      intro t2 ht2
      have S2 := S1.trans (same_new (o := .tup [.ty "list", .ty "tuple"]) ht2)
      refine isi_ltU upd_same (er.same S2).or ?_
      generalize upd (upd H t1 (.tup [.ty "list", .ty "tuple"])) t2 (.tup [.ty "list", .ty "tuple"]) = H2 at *
      walk_at "zz"
      have lenh := rh.len
      have lenr := rr.len
      refine s_iunB (eh.same S2) rfl ?_
      refine lc_un vh (fun D j H' => Same H2 H' ∧ H' D = some (.lst ((List.replicate j true).map V.bl))) (fun D hD => ⟨same_new hD, upd_same⟩) (fun D j H' hD hj h => eh.same (S2.trans h.1)) ?_ ?_
      · rintro D j v H3 hD hv ⟨S3, h3'⟩
        obtain ⟨x, hx, t, rfl, ht⟩ := rh.getv hv
        have hj := (List.getElem?_eq_some_iff.mp hv).1
        walk_at "zz"
        refine cl_are_wholes (wholes_ints (xs := x) (m := 3) ⟨t, rfl, seqU_same (S2.trans S3) ht⟩ rfl (by rw [h3 x (List.mem_of_getElem? hx)]; omega) fun H4 S4 => ?_)
        rw [h3 x (List.mem_of_getElem? hx)]
        refine c_acc (S4 _ _ h3') (by rw [List.length_map, List.length_replicate]; omega) fun H5 B5 h5 => ⟨same_own (S3.trans S4) B5 hD, ?_⟩
        rw [h5, List.replicate_succ', List.map_append]; rfl
      rintro D H3 hD ⟨S3, h3'⟩
      walk_at "zz"
      refine s_all (SqL.of h3') ?_
      rw [show (List.replicate vh.length true).all id = true by simp]
      have S03 := S2.trans S3
      walk_at "zz"
      refine s_iunB (er.same S03) rfl ?_
      refine lc_un vr (fun D j H' => Same H3 H' ∧ H' D = some (.lst ((List.replicate j true).map V.bl))) (fun D hD => ⟨same_new hD, upd_same⟩) (fun D j H' hD hj h => er.same (S03.trans h.1)) ?_ ?_
      · rintro D2 j v H4 hD2 hv ⟨S4, h4⟩
        obtain ⟨x, hx, t, rfl, ht⟩ := rr.getv hv
        have hj := (List.getElem?_eq_some_iff.mp hv).1
        walk_at "zz"
        refine cl_are_wholes (wholes_ints (xs := x) (m := 2) ⟨t, rfl, seqU_same (S03.trans S4) ht⟩ rfl (by rw [r2 x (List.mem_of_getElem? hx)]; omega) fun H5 S5 => ?_)
        rw [r2 x (List.mem_of_getElem? hx)]
        refine c_acc (S5 _ _ h4) (by rw [List.length_map, List.length_replicate]; omega) fun H6 B6 h6 => ⟨same_own (S4.trans S5) B6 hD2, ?_⟩
        rw [h6, List.replicate_succ', List.map_append]; rfl
      rintro D2 H4 hD2 ⟨S4, h4⟩
      walk_at "zz"
      refine s_all (SqL.of h4) ?_
      rw [show (List.replicate vr.length true).all id = true by simp]
      have S04 := S03.trans S4
      walk_at "zz"
      refine cl_make_code ⟨hs, rs, ListI.same S04 ⟨lh, vh, rfl, eh.or, rh⟩, ListI.same S04 ⟨lr, vr, rfl, er.or, rr⟩, h3, r2, hl3, rl2, fun C => absurd C nC, fun _ H5 S5 => ?_⟩
      walk_at "zz"
      refine s_raiseN ?_
      exact q _ (S04.trans S5)
  obtain ⟨hs, rs, ⟨lh, vh, rfl, eh, rh⟩, ⟨lr, vr, rfl, er, rr⟩, C, hrl, q⟩ := h
  obtain ⟨kh, eh⟩ := SqB.of eh
  obtain ⟨kr, er⟩ := SqB.of er
  have big : 1000000 ≤ sizeLine := by decide
  have lenh := rh.len
  have lenr := rr.len
  have lh16 := C.h16
  walk_at "zz"
  intro t1 ht1
  have S1 := same_new (o := .tup [.ty "list", .ty "tuple"]) ht1
  refine isi_ltU upd_same (eh.same S1).or ?_
  walk_at "zz"
  intro t2 ht2
  have S2 := S1.trans (same_new (o := .tup [.ty "list", .ty "tuple"]) ht2)
  refine isi_ltU upd_same (er.same S2).or ?_
  generalize upd (upd H t1 (.tup [.ty "list", .ty "tuple"])) t2 (.tup [.ty "list", .ty "tuple"]) = H2 at *
  walk_at "zz"
  refine s_iunB (eh.same S2) rfl ?_
  refine lc_un vh (fun D j H' => Same H2 H' ∧ H' D = some (.lst ((List.replicate j true).map V.bl))) (fun D hD => ⟨same_new hD, upd_same⟩) (fun D j H' hD hj h => eh.same (S2.trans h.1)) ?_ ?_
  · rintro D j v H3 hD hv ⟨S3, h3⟩
    obtain ⟨x, hx, t, rfl, ht⟩ := rh.getv hv
    have hj := (List.getElem?_eq_some_iff.mp hv).1
    walk_at "zz"
    refine cl_are_wholes (wholes_ints (xs := x) (m := 3) ⟨t, rfl, seqU_same (S2.trans S3) ht⟩ rfl (by rw [C.h3 x (List.mem_of_getElem? hx)]; omega) fun H4 S4 => ?_)
    rw [C.h3 x (List.mem_of_getElem? hx)]
    refine c_acc (S4 _ _ h3) (by rw [List.length_map, List.length_replicate]; omega) fun H5 B5 h5 => ⟨same_own (S3.trans S4) B5 hD, ?_⟩
    rw [h5, List.replicate_succ', List.map_append]; rfl
  rintro D H3 hD ⟨S3, h3⟩
  walk_at "zz"
  refine s_all (SqL.of h3) ?_
  rw [show (List.replicate vh.length true).all id = true by simp]
  have S03 := S2.trans S3
  walk_at "zz"
  refine s_iunB (er.same S03) rfl ?_
  refine lc_un vr (fun D j H' => Same H3 H' ∧ H' D = some (.lst ((List.replicate j true).map V.bl))) (fun D hD => ⟨same_new hD, upd_same⟩) (fun D j H' hD hj h => er.same (S03.trans h.1)) ?_ ?_
  · rintro D2 j v H4 hD2 hv ⟨S4, h4⟩
    obtain ⟨x, hx, t, rfl, ht⟩ := rr.getv hv
    have hj := (List.getElem?_eq_some_iff.mp hv).1
    walk_at "zz"
    refine cl_are_wholes (wholes_ints (xs := x) (m := 2) ⟨t, rfl, seqU_same (S03.trans S4) ht⟩ rfl (by rw [C.r2 x (List.mem_of_getElem? hx)]; omega) fun H5 S5 => ?_)
    rw [C.r2 x (List.mem_of_getElem? hx)]
    refine c_acc (S5 _ _ h4) (by rw [List.length_map, List.length_replicate]; omega) fun H6 B6 h6 => ⟨same_own (S4.trans S5) B6 hD2, ?_⟩
    rw [h6, List.replicate_succ', List.map_append]; rfl
  rintro D2 H4 hD2 ⟨S4, h4⟩
  walk_at "zz"
  refine s_all (SqL.of h4) ?_
  rw [show (List.replicate vr.length true).all id = true by simp]
  have S04 := S03.trans S4
  walk_at "zz"
  refine cl_make_code ⟨hs, rs, ListI.same S04 ⟨lh, vh, rfl, eh.or, rh⟩, ListI.same S04 ⟨lr, vr, rfl, er.or, rr⟩, C.h3, C.r2, by omega, by omega, fun _ H5 S5 => ?_, fun z => absurd C z⟩
  have S05 := S04.trans S5
  walk_at "zz"
  refine s_lenU (eh.same S05).or ?_
  walk_at "zz"
  intro lf hlf
  walk_at "zz"
  have S06 := S05.trans (same_new (o := .lst [.int vh.length]) hlf)
  have hlf0 := S05.free hlf
  refine s_iunB (eh.same S06) rfl ?_
  have sum3 : ∀ i, (hs.take i).flatten.length ≤ 100 := fun i => by
    rw [flat_sum fun x hx => C.h3 x (List.mem_of_mem_take hx), List.length_take]
    omega
  have sum2 : ∀ i, (rs.take i).flatten.length ≤ 100000 := fun i => by
    rw [flat_sum fun x hx => C.r2 x (List.mem_of_mem_take hx), List.length_take]
    omega
  refine loop_un vh (fun i σ' H' => Same H H' ∧ H' lf = some (.lst (((hs.length : Int) :: (hs.take i).flatten).map V.int)) ∧ ∃ x2 x5, σ' = [some (.ref lh), some (.ref lr), x2, none, some (.ref lf), x5]) ⟨S06, by rw [upd_same, lenh]; rfl, _, _, rfl⟩ (fun i σ' H' hi h => eh.same h.1) ?_ ?_
  · rintro i v σ' H7 hv ⟨S7, h7, x2, x5, rfl⟩
    obtain ⟨x, hx, t, rfl, ht⟩ := rh.getv hv
    have hx3 := C.h3 x (List.mem_of_getElem? hx)
    have hi := List.getElem?_eq_some_iff.mp hx
    walk_at "zz"
    refine s_listU (seqU_same S7 ht) fun l hl => ?_
    walk_at "zz"
    refine c_extend (zs := x.map V.int) (up_new hl h7) upd_same (by have := sum3 i; simp only [List.length_map, List.length_cons]; omega) fun H8 B8 h8 => ?_
    walk_at "zz"
    refine ⟨same_own (S7.trans (same_new hl)) B8 hlf0, ?_, _, _, rfl⟩
    rw [h8, List.take_succ_eq_append_getElem hi.1, hi.2, List.flatten_append]
    simp
  rintro σ' H7 ⟨S7, h7, x2, x5, rfl⟩
  rw [show vh.length = hs.length from lenh, List.take_length] at h7
  walk_at "zz"
  refine s_iunB (er.same S7) rfl ?_
  refine loop_un vr (fun i σ' H' => Same H H' ∧ H' lf = some (.lst (((hs.length : Int) :: (hs.flatten ++ (rs.take i).flatten)).map V.int)) ∧ ∃ x2 x3 x5, σ' = [some (.ref lh), some (.ref lr), x2, x3, some (.ref lf), x5]) ⟨S7, by rw [h7]; simp, _, _, _, rfl⟩ (fun i σ' H' hi h => er.same h.1) ?_ ?_
  · rintro i v σ' H8 hv ⟨S8, h8, x2, x3, x5, rfl⟩
    obtain ⟨x, hx, t, rfl, ht⟩ := rr.getv hv
    have hx3 := C.r2 x (List.mem_of_getElem? hx)
    have hi := List.getElem?_eq_some_iff.mp hx
    walk_at "zz"
    refine s_listU (seqU_same S8 ht) fun l hl => ?_
    walk_at "zz"
    refine c_extend (zs := x.map V.int) (up_new hl h8) upd_same (by have := sum2 i; have := sum3 hs.length; rw [List.take_length] at this; simp only [List.length_map, List.length_cons, List.length_append]; omega) fun H9 B9 h9 => ?_
    walk_at "zz"
    refine ⟨same_own (S8.trans (same_new hl)) B9 hlf0, ?_, _, _, _, rfl⟩
    rw [h9, List.take_succ_eq_append_getElem hi.1, hi.2, List.flatten_append]
    simp
  rintro σ' H8 ⟨S8, h8, x2, x3, x5, rfl⟩
  rw [show vr.length = rs.length from lenr, List.take_length] at h8
  walk_at "zz"
  exact q lf H8 S8 hlf0 h8

theorem rd_summed {Z : Adr} (T : Top Z) {a0 a1 a2 : V} {H : Hp} {Q : VK} {E : XK} (h : q_summed Z a0 a1 a2 H Q E) : t_summed Z (fun cls d _ H => E cls d H) ⟨fun _ H' => Q .non H', Q, fun _ _ => False, fun _ _ => False⟩ [some a0, some a1, some a2, none] H := by
  unfold t_summed
  obtain ⟨i, a, b, rfl, rfl, rfl, ha, hb, q⟩ := h
  have fin : ∀ (z : Int) (t : Addr), H t = none → z = (if i = 8 then a + b else if i = 9 then a - b else a * b) → (if z.natAbs < 10 ^ 100 then Q (.ref t) (upd H t (.tup [.non, .int z])) else Q (.ref t) (upd H t (.tup [.str "great", .int 0]))) := by
    intro z t ht e
    have := q t ht
    unfold sumW at this
    rw [← e] at this
    split
    · rename_i c
      rw [if_pos c] at this
      exact this
    · rename_i c
      rw [if_neg c] at this
      exact this
  have hlog : ∀ z : Int, z = (if i = 8 then a + b else if i = 9 then a - b else a * b) → (if z < 0 then -z else z).natAbs.log2 < 1920 := by
    intro z e
    have h1 : z.natAbs < 2 ^ 800 := by
      have p : (10 : Nat) ^ 100 ≤ 2 ^ 399 := by decide +kernel
      have p2 : (10 : Nat) ^ 100 * 10 ^ 100 ≤ 2 ^ 799 := by decide +kernel
      unfold Fig at ha hb
      have m : (a * b).natAbs < 10 ^ 100 * 10 ^ 100 := by
        rw [Int.natAbs_mul]
        exact Nat.mul_lt_mul'' ha hb
      have p3 : (2 : Nat) ^ 800 = 2 ^ 799 + 2 ^ 799 := by decide +kernel
      have p4 : (2 : Nat) ^ 399 ≤ 2 ^ 799 := by decide +kernel
      generalize (10 : Nat) ^ 100 * 10 ^ 100 = M at *
      generalize (10 : Nat) ^ 100 = L at *
      generalize (2 : Nat) ^ 800 = B8 at *
      generalize (2 : Nat) ^ 799 = B7 at *
      generalize (2 : Nat) ^ 399 = B3 at *
      generalize a * b = ab at *
      split at e
      · omega
      · split at e <;> omega
    have e2 : (if z < 0 then -z else z).natAbs = z.natAbs := by split <;> omega
    rw [e2]
    exact Nat.lt_of_lt_of_le (PySem.Flt.log2_lt_of (k := 800) (by decide) h1) (by decide)
  walk_at "zz"
  refine s_cut (fun σ' H' => H' = H ∧ ∃ z, z = (if i = 8 then a + b else if i = 9 then a - b else a * b) ∧ σ' = [some (.int i), some (.int a), some (.int b), some (.int z)]) ?_ ?_
  · walk_at "zz"
    refine s_ifd (fun c => ?_) (fun c => ?_)
    · walk_at "zz"
      exact ⟨rfl, _, by rw [if_pos c], rfl⟩
    · walk_at "zz"
      refine s_ifd (fun c2 => ?_) (fun c2 => ?_)
      · walk_at "zz"
        exact ⟨rfl, _, by rw [if_neg c, if_pos c2], rfl⟩
      · walk_at "zz"
        refine s_mul (.inr (fig_mul ha hb)) ?_
        walk_at "zz"
        exact ⟨rfl, _, by rw [if_neg c, if_neg c2], rfl⟩
  · rintro σ' H' ⟨rfl, z, e, rfl⟩
    walk_at "zz"
    refine s_strI (hlog z e) ?_
    walk_at "zz"
    refine s_len_s (int_text_fits (hlog z e)) ?_
    have dg := len_digits z
    walk_at "zz"
    refine s_ifd (fun c => ?_) (fun c => ?_)
    · walk_at "zz"
      intro t ht
      have := fin z t ht e
      rw [if_neg (fun c2 => by have := dg.mpr c2; omega)] at this
      exact this
    · walk_at "zz"
      intro t ht
      have := fin z t ht e
      rw [if_pos (dg.mp (by omega))] at this
      exact this

theorem rd_parted_by {Z : Adr} (T : Top Z) {a0 a1 a2 : V} {H : Hp} {Q : VK} {E : XK} (h : q_parted_by Z a0 a1 a2 H Q E) : t_parted_by Z (fun cls d _ H => E cls d H) ⟨fun _ H' => Q .non H', Q, fun _ _ => False, fun _ _ => False⟩ [some a0, some a1, some a2] H := by
  unfold t_parted_by
  obtain ⟨i, a, b, rfl, rfl, rfl, ha, hb, q⟩ := h
  unfold quoW at q
  walk_at "zz"
  refine s_ifd (fun c => ?_) (fun c => ?_)
  · walk_at "zz"
    rw [if_pos c] at q
    exact q
  · have hl : b ≠ 0 ∧ b.natAbs.log2 < 9000 := ⟨c, Nat.lt_trans (fig_log hb) (by decide)⟩
    walk_at "zz"
    rw [if_neg c] at q
    refine s_ifd (fun c2 => ?_) (fun c2 => ?_)
    · rw [if_pos c2] at q
      walk_at "zz"
      refine s_fdv hl ?_
      walk_at "zz"
      exact q
    · rw [if_neg c2] at q
      walk_at "zz"
      refine s_mod c ?_
      walk_at "zz"
      exact q

theorem rd_of_numbers {Z : Adr} (T : Top Z) {a0 a1 : V} {H : Hp} {Q : VK} {E : XK} (h : q_of_numbers Z a0 a1 H Q E) : t_of_numbers Z (fun cls d _ H => E cls d H) ⟨fun _ H' => Q .non H', Q, fun _ _ => False, fun _ _ => False⟩ [some a0, some a1, none, none] H := by
  unfold t_of_numbers
  obtain ⟨i, a, b, lv, rfl, rfl, hl, ha, hb, q⟩ := h
  unfold numW at q
  walk_at "zz"
  intro t0 h0
  walk_at "zz"
  refine s_in_t (SqT.of upd_same) rfl rfl ?_
  walk_at "zz"
  have S0 : Same H (upd H t0 (.tup [.int 8, .int 9, .int 10])) := same_new h0
  refine s_ifk (fun c => ?_) (fun c => ?_)
  · have c' : i = 8 ∨ i = 9 ∨ i = 10 := by simp [inV, eqV] at c; omega
    rw [if_pos c'] at q
    walk_at "zz"
    refine cl_summed ⟨i, a, b, rfl, rfl, rfl, ha, hb, fun t ht => ?_⟩
    exact q t _ (S0.trans (same_new ht)) (S0.free ht) upd_same
  · have c' : ¬ (i = 8 ∨ i = 9 ∨ i = 10) := by simp [inV, eqV] at c; omega
    rw [if_neg c'] at q
    walk_at "zz"
    intro t1 h1
    have S1 : Same H (upd (upd H t0 (.tup [.int 8, .int 9, .int 10])) t1 (.tup [.int 11, .int 12])) := S0.trans (same_new h1)
    walk_at "zz"
    refine s_in_t (SqT.of upd_same) rfl rfl ?_
    walk_at "zz"
    refine s_ifk (fun c2 => ?_) (fun c2 => ?_)
    · have c2' : i = 11 ∨ i = 12 := by simp [inV, eqV] at c2; omega
      rw [if_pos c2'] at q
      walk_at "zz"
      refine cl_parted_by ⟨i, a, b, rfl, rfl, rfl, ha, hb, fun t ht => ?_⟩
      exact q t _ (S1.trans (same_new ht)) (S1.free ht) upd_same
    · have c2' : ¬ (i = 11 ∨ i = 12) := by simp [inV, eqV] at c2; omega
      rw [if_neg c2'] at q
      walk_at "zz"
      refine s_ifd (fun c3 => ?_) (fun c3 => ?_)
      · rw [if_pos c3] at q
        walk_at "zz"
        intro t ht
        refine q t _ (S1.trans (same_new ht)) (S1.free ht) ?_
        rw [upd_same]
        unfold Wo.vs
        by_cases ab : a < b <;> simp [ab]
      · rw [if_neg c3] at q
        walk_at "zz"
        intro t ht
        refine q t _ (S1.trans (same_new ht)) (S1.free ht) ?_
        rw [upd_same]
        unfold Wo.vs
        by_cases ab : a = b <;> simp [ab]

theorem rd_of_row {Z : Adr} (T : Top Z) {a0 a1 a2 : V} {H : Hp} {Q : VK} {E : XK} (h : q_of_row Z a0 a1 a2 H Q E) : t_of_row Z (fun cls d _ H => E cls d H) ⟨fun _ H' => Q .non H', Q, fun _ _ => False, fun _ _ => False⟩ [some a0, some a1, some a2] H := by
  unfold t_of_row
  obtain ⟨i, lv, a, vs, c, rfl, rfl, rfl, h15, h18, hn, nva, hl, ha, hc, q⟩ := h
  have at1 : i ≠ 18 → atI (vs.map V.int) 1 = some (.int (vs.getD 1 0)) := fun h => by
    have hpos : 1 < vs.length := by rw [hn]; unfold partsN; split <;> (try split) <;> (try split) <;> omega
    exact at_of (j := 1) rfl (by match vs, hpos with | _ :: _ :: _, _ => rfl)
  have at2 : i = 17 → atI (vs.map V.int) 2 = some (.int (vs.getD 2 0)) := fun h => by
    have hpos : 2 < vs.length := by rw [hn, h]; decide
    exact at_of (j := 2) rfl (by match vs, hpos with | _ :: _ :: _ :: _, _ => rfl)
  unfold rowW at q
  walk_at "zz"
  refine s_ifd (fun c1 => ?_) (fun c1 => ?_)
  · rw [if_pos c1] at q
    walk_at "zz"
    intro t ht
    rw [List.length_map]
    exact q t _ (But.of (same_new ht)) (up_new ht ha) ht upd_same
  · rw [if_neg c1] at q
    walk_at "zz"
    refine s_ifd (fun c2 => ?_) (fun c2 => ?_)
    · rw [if_pos c2] at q
      walk_at "zz"
      refine s_ix_l (SqL.of hl) (at1 c1) ?_
      walk_at "zz"
      refine c_append ha (Nat.lt_of_lt_of_le (by rw [List.length_map]; exact hc) (by decide)) fun H1 B1 h1 => ?_
      have hl1 := B1.rd nva hl
      walk_at "zz"
      refine s_ix_l (SqL.of hl1) (at1 c1) ?_
      walk_at "zz"
      intro t ht
      refine q t _ (B1.new ht) (up_new ht (by rw [h1, List.map_append]; rfl)) ?_ upd_same
      cases e : H t with
      | none => rfl
      | some o =>
        by_cases z : t = a
        · subst z; rw [h1] at ht; cases ht
        · rw [B1.rd z e] at ht; cases ht
    · rw [if_neg c2] at q
      walk_at "zz"
      refine s_ix_l (SqL.of hl) (at1 c1) ?_
      walk_at "zz"
      have bad : ¬ (0 ≤ vs.getD 1 0 ∧ vs.getD 1 0 < c.length) → ∀ t, H t = none → Q (.ref t) (upd H t (.tup [.str "place", .int 0])) := fun hb t ht => by
        rw [if_neg hb] at q
        exact q t _ (But.of (same_new ht)) (up_new ht ha) ht upd_same
      refine s_ifd (fun c3 => ?_) (fun c3 => ?_)
      · walk_at "zz"
        rw [List.length_map]
        generalize hv : vs.getD 1 0 = v at *
        refine s_ifnn (fun c4 => ?_) (fun c4 => ?_)
        · walk_at "zz"
          exact bad (fun z => c4 z.2)
        · rw [if_pos ⟨c3, c4⟩] at q
          have hx : atI (c.map V.int) v = some (.int (c.getD v.toNat 0)) := by
            refine at_of (j := v.toNat) (by omega) ?_
            rw [List.getElem?_map, List.getD_eq_getElem?_getD, List.getElem?_eq_getElem (by omega)]
            rfl
          walk_at "zz"
          refine s_ifd (fun c5 => ?_) (fun c5 => ?_)
          · rw [if_pos c5] at q
            walk_at "zz"
            refine s_ix_l (SqL.of hl) (at1 c1) ?_
            refine s_ix_l (SqL.of ha) hx ?_
            walk_at "zz"
            intro t ht
            exact q t _ (But.of (same_new ht)) (up_new ht ha) ht upd_same
          · rw [if_neg c5] at q
            have e17 : i = 17 := by omega
            walk_at "zz"
            refine s_ix_l (SqL.of hl) (at2 e17) ?_
            walk_at "zz"
            refine s_ix_l (SqL.of hl) (at1 c1) ?_
            refine c_setL v.toNat ((c.set v.toNat (vs.getD 2 0)).map V.int) ha (by unfold ixN; rw [if_pos c3, if_pos (by rw [List.length_map]; exact c4)]) (by rw [List.map_set]) fun H1 B1 h1 => ?_
            have hl1 := B1.rd nva hl
            walk_at "zz"
            refine s_ix_l (SqL.of hl1) (at2 e17) ?_
            walk_at "zz"
            intro t ht
            refine q t _ (B1.new ht) (up_new ht h1) ?_ upd_same
            cases e : H t with
            | none => rfl
            | some o =>
              by_cases z : t = a
              · subst z; rw [h1] at ht; cases ht
              · rw [B1.rd z e] at ht; cases ht
      · walk_at "zz"
        exact bad (fun z => c3 z.1)

theorem rd_worth {Z : Adr} (T : Top Z) {a0 a1 a2 : V} {H : Hp} {Q : VK} {E : XK} (h : q_worth Z a0 a1 a2 H Q E) : t_worth Z (fun cls d _ H => E cls d H) ⟨fun _ H' => Q .non H', Q, fun _ _ => False, fun _ _ => False⟩ [some a0, some a1, some a2] H := by
  unfold t_worth
  rcases h with ⟨i, a, b, lv, rfl, rfl, h8, h14, hl, ha, hb, q⟩ | ⟨i, lv, lr, vs, as, cs, rfl, rfl, rfl, h15, h19, hn, hl, hA, nv, nlr, hc, hcs, q⟩
  · walk_at "zz"
    refine s_ifd (fun c => ?_) (fun c => by omega)
    walk_at "zz"
    exact cl_of_numbers ⟨i, a, b, lv, rfl, rfl, hl, ha, hb, q⟩
  · walk_at "zz"
    refine s_ifd (fun c => by omega) (fun c => ?_)
    walk_at "zz"
    have hlen : (as.map V.ref).length = cs.length := by rw [List.length_map]; exact hA.len
    have htop := hA.top
    unfold rowsW at q
    refine s_ifd (fun c2 => ?_) (fun c2 => ?_)
    · have e19 : i = 19 := by omega
      rw [if_pos e19] at q
      walk_at "zz"
      intro l hl2
      walk_at "zz"
      refine c_append (up_new hl2 hA.top) (Nat.lt_of_lt_of_le (by omega : _ < 10000000) (by decide)) fun H1 B1 h1 => ?_
      walk_at "zz"
      have nl : l ∉ as := fun z => by
        obtain ⟨j, hj⟩ := List.mem_iff_getElem?.mp z
        obtain ⟨c, _, e⟩ := hA.row j l hj
        rw [hl2] at e; cases e
      have nll : l ≠ lr := (ne_of_none hA.top hl2).symm
      have hA1 : HeapAt H1 lr (as ++ [l]) (cs ++ [[]]) := by
        refine ⟨by rw [h1, List.map_append]; rfl, fun j a hj => ?_, by rw [List.length_append, List.length_append, hA.len]; rfl, ?_, ?_⟩
        · by_cases hjl : j < as.length
          · rw [List.getElem?_append_left hjl] at hj
            obtain ⟨c, e1, e2⟩ := hA.row j a hj
            exact ⟨c, by rw [List.getElem?_append_left (by rw [← hA.len]; exact hjl)]; exact e1, B1 _ _ (.inl fun z => hA.ne (z ▸ List.mem_of_getElem? hj)) (up_new hl2 e2)⟩
          · rw [List.getElem?_append_right (by omega)] at hj
            have hj0 : j - as.length = 0 := by
              have := (List.getElem?_eq_some_iff.mp hj).1
              simp only [List.length_singleton] at this
              omega
            rw [hj0] at hj
            cases hj
            refine ⟨[], by rw [List.getElem?_append_right (by rw [← hA.len]; omega), ← hA.len, hj0]; rfl, B1 _ _ (.inl nll) upd_same⟩
        · rw [List.nodup_append]
          exact ⟨hA.nd, by simp, fun a ha b hb => by cases List.mem_singleton.mp hb; intro z; subst z; exact nl ha⟩
        · intro z
          rcases List.mem_append.mp z with z | z
          · exact hA.ne z
          · exact nll (List.mem_singleton.mp z).symm
      have BB : ∀ b o, ((b ≠ lr ∧ b ∉ as) ∨ Fz o) → H b = some o → H1 b = some o := fun b o n e => B1 b o (n.imp (fun z => z.1) id) (up_new hl2 e)
      have e5 : ((as.map V.ref ++ [V.ref l]).length : Int) - 1 = cs.length := by rw [List.length_append, hlen]; simp
      intro t ht
      rw [e5]
      have B1t : ∀ b o, ((b ≠ lr ∧ b ∉ as) ∨ Fz o) → H b = some o → upd H1 t (.tup [.non, .int (cs.length : Int)]) b = some o := fun b o n e => up_new ht (BB b o n e)
      refine q t (as ++ [l]) _ B1t ⟨up_new ht hA1.top, fun j a hj => ?_, hA1.len, hA1.nd, hA1.ne⟩ ?_ ?_ ?_ ?_
      · obtain ⟨c, e1, e2⟩ := hA1.row j a hj
        exact ⟨c, e1, up_new ht e2⟩
      · intro n hn
        rcases List.mem_append.mp hn with z | z
        · exact .inl z
        · exact .inr (by rw [List.mem_singleton.mp z]; exact hl2)
      · cases e : H t with
        | none => rfl
        | some o =>
          by_cases et : t = lr
          · subst et; rw [hA1.top] at ht; cases ht
          · by_cases em : t ∈ as
            · obtain ⟨j, hj⟩ := List.mem_iff_getElem?.mp em
              obtain ⟨c, _, e'⟩ := hA1.row j t (by rw [List.getElem?_append_left (List.getElem?_eq_some_iff.mp hj).1]; exact hj)
              rw [ht] at e'; cases e'
            · rw [BB t o (.inl ⟨et, em⟩) e] at ht; cases ht
      · intro z
        obtain ⟨j, hj⟩ := List.mem_iff_getElem?.mp z
        obtain ⟨c, _, e'⟩ := hA1.row j t hj
        rw [ht] at e'; cases e'
      · exact upd_same
    · have e19 : i ≠ 19 := by omega
      rw [if_neg e19] at q
      have hpos : 0 < vs.length := by rw [hn]; unfold partsN; split <;> (try split) <;> (try split) <;> omega
      have hv0 : atI (vs.map V.int) 0 = some (.int (vs.getD 0 0)) := at_of (j := 0) rfl (by cases vs with | nil => simp at hpos | cons a r => rfl)
      walk_at "zz"
      refine s_ix_l (SqL.of hl) hv0 ?_
      walk_at "zz"
      have lenr : (as.map V.ref).length = cs.length := by rw [List.length_map]; exact hA.len
      generalize hv : vs.getD 0 0 = v at *
      have bad : ¬ (0 ≤ v ∧ v < cs.length) → ∀ t, H t = none → Q (.ref t) (upd H t (.tup [.str "row", .int 0])) := fun hb t ht => by
        rw [if_neg hb] at q
        refine q t as _ (fun b o _ e => up_new ht e) ⟨up_new ht hA.top, fun j a hj => ?_, hA.len, hA.nd, hA.ne⟩ (fun n hn => .inl hn) ht ?_ upd_same
        · obtain ⟨c, e1, e2⟩ := hA.row j a hj
          exact ⟨c, e1, up_new ht e2⟩
        · intro z
          obtain ⟨j, hj⟩ := List.mem_iff_getElem?.mp z
          obtain ⟨c, _, e⟩ := hA.row j t hj
          rw [ht] at e; cases e
      refine s_ifd (fun c3 => ?_) (fun c3 => ?_)
      · walk_at "zz"
        rw [lenr]
        refine s_ifnn (fun c4 => ?_) (fun c4 => ?_)
        · walk_at "zz"
          exact bad (fun z => c4 z.2)
        · rw [if_pos ⟨c3, c4⟩] at q
          have hj : v.toNat < as.length := by rw [hA.len]; omega
          obtain ⟨c, e1, e2⟩ := hA.row v.toNat as[v.toNat] (List.getElem?_eq_getElem hj)
          generalize ha : as[v.toNat] = a at *
          have hja : as[v.toNat]? = some a := by rw [List.getElem?_eq_getElem hj, ha]
          have hx : atI (as.map V.ref) v = some (.ref a) := at_of (j := v.toNat) (by omega) (by rw [List.getElem?_map, hja]; rfl)
          have ecs : cs.getD v.toNat [] = c := by rw [List.getD_eq_getElem?_getD, e1]; rfl
          rw [ecs] at q
          walk_at "zz"
          refine s_ix_l (SqL.of hl) hv0 ?_
          refine s_ix_l (SqL.of hA.top) hx ?_
          walk_at "zz"
          have ma : a ∈ as := List.mem_of_getElem? hja
          refine cl_of_row ⟨i, lv, a, vs, c, rfl, rfl, rfl, h15, by omega, hn, fun z => nv (z ▸ ma), hl, e2, hcs c (List.mem_of_getElem? e1), fun t H1 B1 h1 ht hT => ?_⟩
          refine q t as H1 (fun b o n e => B1 b o (n.imp (fun z w => z.2 (w ▸ ma)) id) e) ⟨B1.rd (fun z => hA.ne (z ▸ ma)) hA.top, fun j b hb => ?_, by rw [List.length_set]; exact hA.len, hA.nd, hA.ne⟩ (fun n hn => .inl hn) ht ?_ hT
          · obtain ⟨d, d1, d2⟩ := hA.row j b hb
            by_cases hjv : j = v.toNat
            · subst hjv
              rw [hja] at hb
              cases hb
              exact ⟨_, by rw [List.getElem?_set_self (by rw [← hA.len]; exact hj)], h1⟩
            · have nb : b ≠ a := fun z => hjv (nd_ix hA.nd (z ▸ hb) hja)
              exact ⟨d, by rw [List.getElem?_set_ne (fun z => hjv z.symm)]; exact d1, B1.rd nb d2⟩
          · intro z
            obtain ⟨j, hj⟩ := List.mem_iff_getElem?.mp z
            obtain ⟨d, _, e⟩ := hA.row j t hj
            rw [ht] at e; cases e
      · walk_at "zz"
        exact bad (fun z => c3 z.1)

theorem rd_parts_of {Z : Adr} (T : Top Z) {a0 : V} {H : Hp} {Q : VK} {E : XK} (h : q_parts_of Z a0 H Q E) : t_parts_of Z (fun cls d _ H => E cls d H) ⟨fun _ H' => Q .non H', Q, fun _ _ => False, fun _ _ => False⟩ [some a0] H := by
  unfold t_parts_of
  obtain ⟨i, rfl, q⟩ := h
  unfold manyP at q
  walk_at "zz"
  refine s_ifd (fun c => ?_) (fun c => ?_)
  · rw [if_pos c] at q
    walk_at "zz"
    exact q _ (Same.refl H)
  · rw [if_neg c] at q
    walk_at "zz"
    intro t ht
    walk_at "zz"
    refine s_in_t (SqT.of upd_same) rfl rfl ?_
    walk_at "zz"
    have S := same_new (o := .tup [.int 7, .int 18]) ht
    have e : inV (.int i) [.int 7, .int 18] = decide (i = 7 ∨ i = 18) := by
      simp only [inV, List.any, eqV, Bool.or_false]
      rw [Bool.decide_or]
      congr 1 <;> (rw [Bool.eq_iff_iff]; simp; omega)
    rw [e]
    refine s_ifd (fun c => ?_) (fun c => ?_)
    · rw [if_pos c] at q
      walk_at "zz"
      exact q _ S
    · rw [if_neg c] at q
      walk_at "zz"
      refine s_ifd (fun c => ?_) (fun c => ?_)
      · rw [if_pos c] at q
        walk_at "zz"
        exact q _ S
      · rw [if_neg c] at q
        walk_at "zz"
        exact q _ S

theorem rd_Frame_init {Z : Adr} (T : Top Z) {a0 a1 a2 : V} {H : Hp} {Q : VK} {E : XK} (h : q_Frame_init Z a0 a1 a2 H Q E) : t_Frame_init Z (fun cls d _ H => E cls d H) ⟨fun _ H' => Q .non H', Q, fun _ _ => False, fun _ _ => False⟩ [some a0, some a1, some a2] H := by
  unfold t_Frame_init
  obtain ⟨p, dx, rfl, hp, q⟩ := h
  walk_at "zz"
  refine fn_Frame_at T hp fun H1 B1 h1 => ?_
  walk_at "zz"
  refine fn_Frame_boxes T h1 fun H2 B2 h2 => ?_
  walk_at "zz"
  intro lv hlv
  have n := (ne_of_none h2 hlv).symm
  walk_at "zz"
  refine fn_Frame_values_there T (up_new hlv h2) fun H3 B3 h3 => ?_
  have B := B1.trans B2
  exact q lv H3 (B.trans ((But.of (same_new hlv)).trans B3)) (B.none n hlv) (B3.rd n upd_same) h3

theorem rd_Frame_take {Z : Adr} (T : Top Z) {a0 a1 : V} {H : Hp} {Q : VK} {E : XK} (h : q_Frame_take Z a0 a1 H Q E) : t_Frame_take Z (fun cls d _ H => E cls d H) ⟨fun _ H' => Q .non H', Q, fun _ _ => False, fun _ _ => False⟩ [some a0, some a1, none, none] H := by
  unfold t_Frame_take
  obtain ⟨a, dx, v1, v2, lv, vs, k, rfl, rfl, ha, hlv, q1, q2⟩ := h
  walk_at "zz"
  rw [List.length_map]
  refine s_ifd (fun c => ?_) (fun c => ?_)
  · walk_at "zz"
    exact q1 (by omega)
  have e1 : ((vs.length : Int) - (k : Int)) = ((vs.length - k : Nat) : Int) := by omega
  rw [e1]
  walk_at "zz"
  intro l hl
  rw [cut_dropI]
  have hlv1 := up_new (u := .lst ((vs.drop (vs.length - k)).map V.int)) hl hlv
  have ha1 := up_new (u := .lst ((vs.drop (vs.length - k)).map V.int)) hl ha
  walk_at "zz"
  intro l2 hl2
  rw [cut_takeI]
  have n1 : l2 ≠ a := (ne_of_none ha1 hl2).symm
  have n0 : l ≠ a := (ne_of_none ha hl).symm
  have n2 : l ≠ l2 := ne_of_none upd_same hl2
  walk_at "zz"
  refine fp_Frame_values_there T (up_new hl2 ha1) fun H3 B3 h3 => ?_
  walk_at "zz"
  refine q2 (by omega) l l2 H3 ((But.of ((same_new hl).trans (same_new hl2))).trans B3) hl ((same_new hl).free hl2) n2 (B3.rd n0 (up_new hl2 upd_same)) (B3.rd n1 upd_same) h3

theorem rd_Frame_lay {Z : Adr} (T : Top Z) {a0 a1 : V} {H : Hp} {Q : VK} {E : XK} (h : q_Frame_lay Z a0 a1 H Q E) : t_Frame_lay Z (fun cls d _ H => E cls d H) ⟨fun _ H' => Q .non H', Q, fun _ _ => False, fun _ _ => False⟩ [some a0, some a1] H := by
  unfold t_Frame_lay
  obtain ⟨a, dx, v1, v2, lv, vs, rfl, ha, hlv, hn, q⟩ := h
  have big : 16000000 ≤ sizeLine := by decide
  walk_at "zz"
  refine c_append hlv (by omega) fun H' B e => q H' B e

theorem rd_Machine_init {Z : Adr} (T : Top Z) {a0 a1 a2 a3 : V} {H : Hp} {Q : VK} {E : XK} (h : q_Machine_init Z a0 a1 a2 a3 H Q E) : t_Machine_init Z (fun cls d _ H => E cls d H) ⟨fun _ H' => Q .non H', Q, fun _ _ => False, fun _ _ => False⟩ [some a0, some a1, some a2, some a3] H := by
  unfold t_Machine_init
  rcases h with h | ⟨p, dx, rfl, hp, hn, q⟩
  rotate_left
  · walk_at "zz"
    refine cl_heads_of (.inr ⟨hn, fun H' S => ?_⟩)
    exact q _ S
  obtain ⟨H0, p, dx, lc, lg, xs, given, hs, rs, br, rfl, rfl, rfl, rfl, hp, S0, hp0, hc, I, hxl, hg, q⟩ := h
  have nl : ∀ {fs : List (Str × V)} (ys : List V), HO.ins Z.c_Machine dx fs ≠ .lst ys := fun ys z => by cases z
  have nt : ∀ {fs : List (Str × V)} (ys : List V), HO.ins Z.c_Machine dx fs ≠ .tup ys := fun ys z => by cases z
  have keep0 : ∀ {H1 H2 : Hp}, Same H0 H1 → But p H1 H2 → Same H0 H2 := fun S B b o e => B b o (.inl fun z => by rw [z, hp0] at e; cases e) (S _ _ e)
  walk_at "zz"
  refine cl_heads_of (.inl ⟨lc, xs, hs, rs, rfl, hc, hxl, I, fun lh H1 S1 T1 => ?_⟩)
  obtain ⟨hh0, vh, hh, th⟩ := T1
  have hp1 := S1 _ _ hp
  walk_at "zz"
  refine fn_Machine_heads T hp1 fun H2 B2 e2 => ?_
  have nh : lh ≠ p := (ne_of_none hp hh0).symm
  have hh2 := B2.rd nh hh
  have th2 := th.mono (TupS.but B2 hp1 nt)
  have SS2 := keep0 (S0.trans S1) B2
  have hc2 := sqL_ins hp1 nl B2 (S1.seq hc)
  have hg2 := sqL_ins hp1 nl B2 (S1.seq hg)
  walk_at "zz"
  refine cl_rows_of (.inl ⟨lc, xs, hs, rs, rfl, hc2, hxl, I, fun lr H3 S3 T3 => ?_⟩)
  obtain ⟨hr0, vr, hr, tr⟩ := T3
  have hp3 := S3 _ _ e2
  walk_at "zz"
  refine fn_Machine_code_rows T hp3 fun H4 B4 e4 => ?_
  have nr : lr ≠ p := (ne_of_none e2 hr0).symm
  have nrh : lr ≠ lh := (ne_of_none hh2 hr0).symm
  have hr4 := B4.rd nr hr
  have hh4 := B4.rd nh (S3 _ _ hh2)
  have T34 := (TupS.of S3).trans (TupS.but B4 hp3 nt)
  have th4 := th2.mono T34
  have tr4 := tr.mono (TupS.but B4 hp3 nt)
  have SS4 := keep0 (SS2.trans S3) B4
  have hg4 := sqL_ins hp3 nl B4 (S3.seq hg2)
  walk_at "zz"
  intro l1 hl1
  walk_at "zz"
  intro l2 hl2
  walk_at "zz"
  intro l3 hl3
  have S7 : Same H4 (upd (upd (upd H4 l1 (.lst (given.map V.int))) l2 (.lst [])) l3 (.lst [.ref l1, .ref l2])) := ((same_new hl1).trans (same_new hl2)).trans (same_new hl3)
  have h1 : upd (upd (upd H4 l1 (.lst (given.map V.int))) l2 (.lst [])) l3 (.lst [.ref l1, .ref l2]) l1 = some (.lst (given.map V.int)) := up_new hl3 (up_new hl2 upd_same)
  have h2 : upd (upd (upd H4 l1 (.lst (given.map V.int))) l2 (.lst [])) l3 (.lst [.ref l1, .ref l2]) l2 = some (.lst []) := up_new hl3 upd_same
  have h3 : upd (upd (upd H4 l1 (.lst (given.map V.int))) l2 (.lst [])) l3 (.lst [.ref l1, .ref l2]) l3 = some (.lst [.ref l1, .ref l2]) := upd_same
  have n12 : l1 ≠ l2 := ne_of_none upd_same hl2
  have n13 : l1 ≠ l3 := ne_of_none (up_new hl2 upd_same) hl3
  have n23 : l2 ≠ l3 := ne_of_none upd_same hl3
  have f2 := (same_new (o := .lst (given.map V.int)) hl1).free hl2
  have f3 := ((same_new (o := .lst (given.map V.int)) hl1).trans (same_new (o := .lst []) hl2)).free hl3
  generalize upd (upd (upd H4 l1 (.lst (given.map V.int))) l2 (.lst [])) l3 (.lst [.ref l1, .ref l2]) = H7 at *
  have ne4 : ∀ {a b : Addr} {o : HO}, H4 a = some o → H4 b = none → b ≠ a := fun x y => (ne_of_none x y).symm
  walk_at "zz"
  refine fn_Machine_heap T (S7 _ _ e4) fun H8 B8 e8 => ?_
  have SS8 := keep0 (SS4.trans S7) B8
  have hh8 := B8.rd nh (S7 _ _ hh4)
  have hr8 := B8.rd nr (S7 _ _ hr4)
  have T8 := (TupS.of S7).trans (TupS.but B8 (S7 _ _ e4) nt)
  have th8 := th4.mono T8
  have tr8 := tr4.mono T8
  have h18 := B8.rd (ne4 e4 hl1) h1
  have h28 := B8.rd (ne4 e4 f2) h2
  have h38 := B8.rd (ne4 e4 f3) h3
  walk_at "zz"
  refine fn_Machine_breaths T e8 fun H9 B9 e9 => ?_
  have SS9 := keep0 SS8 B9
  have T9 := TupS.but B9 e8 nt
  have hh9 := B9.rd nh hh8
  have hr9 := B9.rd nr hr8
  have h19 := B9.rd (ne4 e4 hl1) h18
  have h29 := B9.rd (ne4 e4 f2) h28
  have h39 := B9.rd (ne4 e4 f3) h38
  walk_at "zz"
  intro l4 hl4
  have n41 := (ne_of_none h19 hl4).symm
  have n42 := (ne_of_none h29 hl4).symm
  have n43 := (ne_of_none h39 hl4).symm
  have n4h := (ne_of_none hh9 hl4).symm
  have n4r := (ne_of_none hr9 hl4).symm
  have n4p := (ne_of_none e9 hl4).symm
  have S10 := same_new (o := .lst []) hl4
  walk_at "zz"
  refine fn_Machine_frames T (S10 _ _ e9) fun H11 B11 e11 => ?_
  walk_at "zz"
  refine fn_Machine_number T e11 fun H12 B12 e12 => ?_
  have B := B11.trans B12
  have T12 := ((T9.trans (TupS.of S10)).trans (TupS.but B11 (S10 _ _ e9) nt)).trans (TupS.but B12 e11 nt)
  have SS12 := keep0 (keep0 (SS9.trans S10) B11) B12
  have h112 := B.rd (ne4 e4 hl1) (S10 _ _ h19)
  have h212 := B.rd (ne4 e4 f2) (S10 _ _ h29)
  have h312 := B.rd (ne4 e4 f3) (S10 _ _ h39)
  have hh12 := B.rd nh (S10 _ _ hh9)
  have hr12 := B.rd nr (S10 _ _ hr9)
  have h412 := B.rd n4p (upd_same (H := H9) (a := l4) (o := .lst []))
  have z : ∀ {H' : Hp} {a : Addr}, Same H0 H' → H' a = none → H0 a = none := fun S e => S.free e
  refine q H12 (fun a => if a = p then some .mach else if a = lh then some .hd else if a = lr then some .rw else if a = l3 then some .heap else if a = l4 then some .frs else if a = l1 ∨ a = l2 then some .row else none) ⟨p, dx, lh, lr, l3, l4, [l1, l2], [], vh, vr⟩ ?_ rfl
  refine ⟨SS12, fun a t g => ?_, fun a t g => ?_, e12, hh12, th8.mono T12, hr12, tr8.mono T12, ⟨h312, fun i a hi => ?_, rfl, by simp [n12], by simp [n13.symm, n23.symm]⟩, h412, ⟨rfl, fun i x f e => by simp at e, fun i x e => by simp at e⟩, if_pos rfl, ?_, ?_, ?_, ?_, fun a ha => ?_⟩
  · repeat' split at g
    · rename_i c; rw [c]; exact hp0
    · rename_i c; rw [c]; exact z S0 hh0
    · rename_i c; rw [c]; exact z SS2 hr0
    · rename_i c; rw [c]; exact z SS4 f3
    · rename_i c; rw [c]; exact z SS9 hl4
    · rename_i c
      rcases c with c | c
      · rw [c]; exact z SS4 hl1
      · rw [c]; exact z SS4 f2
    · cases g
  · have nn : ∀ {o : HO} {a : Addr}, H12 a = some o → H12 a ≠ none := fun e w => by rw [e] at w; cases w
    repeat' split at g
    · rename_i c; rw [c]; exact nn e12
    · rename_i c; rw [c]; exact nn hh12
    · rename_i c; rw [c]; exact nn hr12
    · rename_i c; rw [c]; exact nn h312
    · rename_i c; rw [c]; exact nn h412
    · rename_i c
      rcases c with c | c
      · rw [c]; exact nn h112
      · rw [c]; exact nn h212
    · cases g
  · match i, hi with
    | 0, hi => cases hi; exact ⟨_, rfl, h112⟩
    | 1, hi => cases hi; exact ⟨_, rfl, h212⟩
  · show (if lh = p then _ else if lh = lh then _ else _) = _
    rw [if_neg nh, if_pos rfl]
  · show (if lr = p then _ else if lr = lh then _ else if lr = lr then _ else _) = _
    rw [if_neg nr, if_neg nrh, if_pos rfl]
  · show (if l3 = p then _ else if l3 = lh then _ else if l3 = lr then _ else if l3 = l3 then _ else _) = _
    rw [if_neg (ne4 e4 f3), if_neg (ne4 hh4 f3), if_neg (ne4 hr4 f3), if_pos rfl]
  · show (if l4 = p then _ else if l4 = lh then _ else if l4 = lr then _ else if l4 = l3 then _ else if l4 = l4 then _ else _) = _
    rw [if_neg n4p, if_neg n4h, if_neg n4r, if_neg n43, if_pos rfl]
  · show (if a = p then _ else if a = lh then _ else if a = lr then _ else if a = l3 then _ else if a = l4 then _ else if a = l1 ∨ a = l2 then _ else _) = _
    have ha : a = l1 ∨ a = l2 := by simpa using ha
    rcases ha with c | c
    · rw [c, if_neg (ne4 e4 hl1), if_neg (ne4 hh4 hl1), if_neg (ne4 hr4 hl1), if_neg n13, if_neg n41.symm, if_pos (.inl rfl)]
    · rw [c, if_neg (ne4 e4 f2), if_neg (ne4 hh4 f2), if_neg (ne4 hr4 f2), if_neg n23, if_neg n42.symm, if_pos (.inr rfl)]

theorem rd_Machine_breathe {Z : Adr} (T : Top Z) {a0 : V} {H : Hp} {Q : VK} {E : XK} (h : q_Machine_breathe Z a0 H Q E) : t_Machine_breathe Z (fun cls d _ H => E cls d H) ⟨fun _ H' => Q .non H', Q, fun _ _ => False, fun _ _ => False⟩ [some a0] H := by
  unfold t_Machine_breathe
  obtain ⟨p, dx, v1, v2, v3, v5, v6, br, rfl, hp, q1, q2⟩ := h
  walk_at "zz"
  refine s_ifd (fun c => ?_) (fun c => ?_)
  · walk_at "zz"
    exact q1 c
  walk_at "zz"
  refine fp_Machine_breaths T hp fun H' B e => ?_
  walk_at "zz"
  exact q2 (by omega) H' B e

theorem rd_Machine_begin {Z : Adr} (T : Top Z) {a0 a1 a2 : V} {H : Hp} {Q : VK} {E : XK} (h : q_Machine_begin Z a0 a1 a2 H Q E) : t_Machine_begin Z (fun cls d _ H => E cls d H) ⟨fun _ H' => Q .non H', Q, fun _ _ => False, fun _ _ => False⟩ [some a0, some a1, some a2, none, none, none] H := by
  unfold t_Machine_begin
  obtain ⟨H0, G, A, hs, rs, hp, br, L, k, lp, ps, rfl, rfl, rfl, M, C, hk, hlp, hps, hL, q⟩ := h
  have big : 16000000 ≤ sizeLine := by decide
  obtain ⟨s, p, b, e1, e2, s0, s1, p0, p4, pb, b12, _⟩ := C.head hk
  obtain ⟨v, ev, t, rfl, ht⟩ := M.th.get e2
  replace ht : H t = some (.tup [.int s, .int p, .int b]) := ht
  have ho := M.o
  have hh := M.hh
  have hlf := M.lf
  rw [e1] at q
  walk_at "zz"
  refine s_ixN (SqL.of hh) ev ?_
  walk_at "zz"
  intro l0 hl0
  walk_at "zz"
  refine s_rep upd_same (by omega) (by show 1 * (b - p).toNat ≤ _; omega) fun l1 hl1 => ?_
  have S2 : Same H (upd (upd H l0 (.lst [.int 0])) l1 (.lst (List.replicate (b - p).toNat [V.int 0]).flatten)) := (same_new hl0).trans (same_new hl1)
  walk_at "zz"
  refine s_add_l (S2 _ _ hlp) upd_same (by rw [List.length_map, List.length_flatten]; simp; omega) fun l2 hl2 => ?_
  have eb : (ps.map V.int ++ (List.replicate (b - p).toNat [V.int 0]).flatten) = (ps ++ List.replicate (b - p).toNat 0).map V.int := by
    rw [List.map_append, List.map_replicate]
    congr 1
    induction (b - p).toNat with
    | zero => rfl
    | succ n ih => rw [List.replicate_succ, List.flatten_cons, ih]; rfl
  rw [eb]
  have S3 := S2.trans (same_new (o := .lst ((ps ++ List.replicate (b - p).toNat 0).map V.int)) hl2)
  have M3 := M.same S3
  have h2 : upd (upd (upd H l0 (.lst [.int 0])) l1 (.lst (List.replicate (b - p).toNat [V.int 0]).flatten)) l2 (.lst ((ps ++ List.replicate (b - p).toNat 0).map V.int)) l2 = some (.lst ((ps ++ List.replicate (b - p).toNat 0).map V.int)) := upd_same
  have hl20 : G l2 = none := (M.same S2).free hl2
  have hl2H : H0 l2 = none := (M.same S2).S.free hl2
  generalize upd (upd (upd H l0 (.lst [.int 0])) l1 (.lst (List.replicate (b - p).toNat [V.int 0]).flatten)) l2 (.lst ((ps ++ List.replicate (b - p).toNat 0).map V.int)) = H3 at *
  walk_at "zz"
  intro x dx hx hdx hne
  have S4 : Same H3 (upd (upd H3 dx (.own x)) x (.ins Z.c_Frame dx [])) := fun a o e => by
    rw [upd_ne (ne_of_none e hx), upd_ne (ne_of_none e hdx)]; exact e
  have M4 := M3.same S4
  have hx0 : H0 x = none := M3.S.free hx
  have gx : G x = none := M3.free hx
  have hl24 := S4 _ _ h2
  have hx4 : upd (upd H3 dx (.own x)) x (.ins Z.c_Frame dx []) x = some (.ins Z.c_Frame dx []) := upd_same
  have nx : l2 ≠ x := ne_of_none h2 hx
  generalize upd (upd H3 dx (.own x)) x (.ins Z.c_Frame dx []) = H4 at *
  walk_at "zz"
  refine cl_Frame_init ⟨x, dx, rfl, hx4, fun lv H5 B5 hlv0 hlv e5 => ⟨rfl, ?_⟩⟩
  have M5 : MachAt Z H0 H5 G A hs rs hp br L := M4.other B5 gx hx0 (fun ys z => by rw [hx4] at z; cases z)
  have nl : lv ≠ x := (ne_of_none hx4 hlv0).symm
  have e2' := B5.rd nx hl24
  have hlf5 := M5.lf
  have nll : lv ≠ l2 := (ne_of_none hl24 hlv0).symm
  walk_at "zz"
  refine c_append hlf5 (by rw [List.length_map, M5.frs.len]; omega) fun H6 B6 e6 => ?_
  obtain ⟨G6, M6⟩ := M5.push (x := ⟨x, dx, l2, lv⟩) (f := ⟨s.toNat, ps ++ List.replicate (b - p).toNat 0, []⟩) ⟨by rw [e5]; rw [show (((s.toNat : Nat) : Int)) = s by omega], e2', hlv⟩ hx0 hl2H (M4.S.free hlv0) gx hl20 (M4.free hlv0) nx nl nll B6 e6
  exact q H6 G6 _ M6 rfl

theorem rd_Machine_call {Z : Adr} (T : Top Z) {a0 a1 a2 : V} {H : Hp} {Q : VK} {E : XK} (h : q_Machine_call Z a0 a1 a2 H Q E) : t_Machine_call Z (fun cls d _ H => E cls d H) ⟨fun _ H' => Q .non H', Q, fun _ _ => False, fun _ _ => False⟩ [some a0, some a1, some a2, none, none] H := by
  unfold t_Machine_call
  obtain ⟨k, rfl, H0, G, A, x, hs, rs, hp, br, f, fs, N, rfl, rfl, M, hx, C, ok, hN, hk, q⟩ := h
  replace q : PostM Z H0 A.p hs rs (callM hs hp br f fs k) Q := q
  generalize ep : A.p = p at *
  generalize ea : x.a = a at *
  have hk' : k.toNat < hs.length := by omega
  obtain ⟨s, pp, b, e1, e2, s0, s1, p0, p4, pb, b12, _⟩ := C.head hk'
  obtain ⟨v, ev, t, rfl, ht⟩ := M.th.get e2
  replace ht : H t = some (.tup [.int s, .int pp, .int b]) := ht
  have ho := M.po ep
  have hh := M.hh
  have hfo := M.ato hx ea
  unfold callM at q
  simp only [e1, List.getD_cons_succ, List.getD_cons_zero] at q
  walk_at "zz"
  refine s_ix_l (SqL.of hh) (at_ofN (j := k.toNat) (by omega) ev) ?_
  walk_at "zz"
  refine s_ix_t (SqT.of ht) (v := .int pp) rfl ?_
  walk_at "zz"
  rw [show pp = ((pp.toNat : Nat) : Int) by omega]
  refine c_ftake M hx ea (fun c => ?_) (fun c l x' A' H' G' ex eA M' hx' hfl hl gl hl0 => ?_)
  · rw [if_pos c] at q
    walk_at "zz"
    exact q _ (M.end_ ep)
  · rw [if_neg (by omega)] at q
    have eA := eA.trans ep
    have ho' := M'.po eA
    have hlf' := M'.lf
    have hlen : A'.fa.length = fs.length + 1 := by rw [M'.frs.len, List.length_reverse]; rfl
    walk_at "zz"
    rw [List.length_map, hlen]
    refine s_ifd (fun c16 => ?_) (fun c16 => ?_)
    · rw [if_pos (by omega)] at q
      walk_at "zz"
      exact q _ (M'.end_ eA)
    rw [if_neg (by omega)] at q
    unfold breathM at q
    walk_at "zz"
    refine c_breathe M' eA (fun cb => ?_) (fun cb H2 M2 K2 => ?_)
    · rw [if_pos cb] at q
      walk_at "zz"
      refine s_cut (fun σ' H' => EndAt Z H0 H' p 0 hp ∧ σ' = [some (.ref p), some (.ref a), some (.int k), some (.ref l), some (.str "breath")]) ?_ ?_
      · walk_at "zz"
        exact ⟨M'.end_ eA, rfl⟩
      · rintro σ' H2 ⟨e, rfl⟩
        walk_at "zz"
        exact q _ e
    · rw [if_neg (by omega)] at q
      have ho2 := M2.po eA
      walk_at "zz"
      refine s_cut (fun σ' H' => (∃ G A', MachAt Z H0 H' G A' hs rs hp (br - 1) (⟨s.toNat, f.top pp.toNat ++ List.replicate (b - pp).toNat 0, []⟩ :: f.less pp.toNat :: fs).reverse ∧ A'.p = p) ∧ σ' = [some (.ref p), some (.ref a), some (.int k), some (.ref l), some .non]) ?_ ?_
      · walk_at "zz"
        have lb : (f.top pp.toNat).length ≤ 4 := by unfold Fm.top; rw [List.length_drop]; omega
        have hd := ok.dep
        have hl2 := K2 _ _ gl hl
        refine cl_Machine_begin ⟨H0, G', _, hs, rs, hp, br - 1, _, k.toNat, l, f.top pp.toNat, by rw [eA], by rw [show ((k.toNat : Nat) : Int) = k by omega], rfl, M2, C, hk', hl2, by omega, by rw [List.length_reverse]; simp; omega, fun H3 G3 A3 M3 e3 => ?_⟩
        walk_at "zz"
        rw [e1] at M3
        rw [← List.reverse_cons] at M3
        exact ⟨⟨G3, A3, M3, e3.trans eA⟩, rfl⟩
      · rintro σ' H3 ⟨⟨G3, A3, M3, e3⟩, rfl⟩
        walk_at "zz"
        exact q _ _ _ M3 e3

theorem rd_Machine_back {Z : Adr} (T : Top Z) {a0 a1 : V} {H : Hp} {Q : VK} {E : XK} (h : q_Machine_back Z a0 a1 H Q E) : t_Machine_back Z (fun cls d _ H => E cls d H) ⟨fun _ H' => Q .non H', Q, fun _ _ => False, fun _ _ => False⟩ [some a0, some a1, none] H := by
  unfold t_Machine_back
  obtain ⟨H0, G, A, x, hs, rs, hp, br, f, fs, N, rfl, rfl, M, hx, C, ok, hN, _, q⟩ := h
  replace q : PostM Z H0 A.p hs rs (backM hp br f fs) Q := q
  generalize ep : A.p = p at *
  generalize ea : x.a = a at *
  have ho := M.po ep
  have hfo := M.ato hx ea
  unfold backM at q
  walk_at "zz"
  refine c_ftake (k := 1) M hx ea (fun c => ?_) (fun c l x' A' H' G' ex eA M' hx' hfl hl gl _ => ?_)
  · rw [if_pos c] at q
    walk_at "zz"
    exact q _ (M.end_ ep)
  · rw [if_neg (by omega)] at q
    have eA := eA.trans ep
    have ho' := M'.po eA
    have hlf' := M'.lf
    walk_at "zz"
    have el : ∃ v, f.top 1 = [v] := by
      have : (f.top 1).length = 1 := by unfold Fm.top; rw [List.length_drop]; omega
      match f.top 1, this with
      | [v], _ => exact ⟨v, rfl⟩
    obtain ⟨v, ev⟩ := el
    rw [ev] at hl q
    have hlen : A'.fa.length = fs.length + 1 := by rw [M'.frs.len, List.length_reverse]; rfl
    refine c_pop (z := .ref x'.a) hlf' (by
      rw [List.length_map, hlen, List.getElem?_map, show fs.length + 1 - 1 = fs.length by omega, hx']
      rfl) fun H2 B2 e2 => ?_
    have Mr := M'
    rw [List.reverse_cons] at Mr
    have M2 := Mr.pop B2 e2
    have hl2 : H2 l = some (.lst [.int v]) := B2.rd (fun z => by rw [z, M'.gf] at gl; cases gl) hl
    have ho2 := M2.po eA
    have hlf2 := M2.lf
    walk_at "zz"
    intro l0 hl0
    cases fs with
    | nil =>
      have ee : (A'.fa.dropLast.map fun x => V.ref x.a) = [] := by
        apply List.eq_nil_of_length_eq_zero
        rw [List.length_map, List.length_dropLast, hlen]; rfl
      rw [ee] at hlf2
      have M3 := M2.new (o := .lst []) hl0
      have ho3 := M3.po eA
      have hl3 := up_new (u := .lst []) hl0 hl2
      refine s_eq_d (.lst (SqL.of (up_new hl0 hlf2)) .nil) (.lst (SqL.of upd_same) .nil) rfl rfl ?_
      rw [show PyData.eqv (.list []) (.list []) = true from rfl]
      walk_at "zz"
      refine s_ixN (m := 0) (SqL.of hl3) rfl ?_
      walk_at "zz"
      refine fp_Machine_number T ho3 fun H4 B4 e4 => ?_
      walk_at "zz"
      exact q H4 (M3.endn eA B4 e4)
    | cons g gs =>
      have hgl : (A'.fa.dropLast).length = gs.length + 1 := by rw [List.length_dropLast, hlen]; rfl
      obtain ⟨y, hy⟩ : ∃ y, A'.fa.dropLast[gs.length]? = some y := ⟨_, List.getElem?_eq_getElem (by omega)⟩
      have M3 := M2.new (o := .lst []) hl0
      have ho3 := M3.po eA
      have hlf3 := M3.lf
      have hl3 := up_new (u := .lst []) hl0 hl2
      refine s_eq_len (up_new hl0 hlf2) upd_same (by rw [List.length_map]; show (A'.fa.dropLast).length ≠ 0; omega) ?_
      walk_at "zz"
      have hfy := (M3.at_ hy).o
      refine s_ix_l (v := .ref y.a) (SqL.of hlf3) ?_ ?_
      · show atI ((A'.fa.dropLast).map fun x => V.ref x.a) (-1) = _
        refine at_neg1 ?_
        rw [List.length_map, hgl, List.getElem?_map, show gs.length + 1 - 1 = gs.length by omega, hy]; rfl
      walk_at "zz"
      refine s_ixN (m := 0) (SqL.of hl3) rfl ?_
      walk_at "zz"
      have hgv := (ok.fr g (List.mem_cons_of_mem _ List.mem_cons_self)).n
      refine c_flay M3 hy rfl (by omega) fun H4 M4 _ => ?_
      walk_at "zz"
      exact q H4 _ _ M4 eA

theorem rd_Machine_fail {Z : Adr} (T : Top Z) {a0 a1 : V} {H : Hp} {Q : VK} {E : XK} (h : q_Machine_fail Z a0 a1 H Q E) : t_Machine_fail Z (fun cls d _ H => E cls d H) ⟨fun _ H' => Q .non H', Q, fun _ _ => False, fun _ _ => False⟩ [some a0, some a1, none] H := by
  unfold t_Machine_fail
  obtain ⟨H0, G, A, x, hs, rs, hp, br, f, fs, N, rfl, rfl, M, hx, C, ok, hN, _, q⟩ := h
  replace q : PostM Z H0 A.p hs rs (failM hp f) Q := q
  generalize ep : A.p = p at *
  generalize ea : x.a = a at *
  have ho := M.po ep
  have hfo := M.ato hx ea
  unfold failM at q
  walk_at "zz"
  refine c_ftake (k := 1) M hx ea (fun c => ?_) (fun c l x' A' H' G' ex eA M' hx' hfl hl gl _ => ?_)
  · rw [if_pos c] at q
    walk_at "zz"
    exact q _ (M.end_ ep)
  · rw [if_neg (by omega)] at q
    have eA := eA.trans ep
    have ho' := M'.po eA
    walk_at "zz"
    have el : ∃ v, f.top 1 = [v] := by
      have : (f.top 1).length = 1 := by unfold Fm.top; rw [List.length_drop]; omega
      match f.top 1, this with
      | [v], _ => exact ⟨v, rfl⟩
    obtain ⟨v, ev⟩ := el
    rw [ev] at hl q
    refine s_ixN (m := 0) (SqL.of hl) rfl ?_
    walk_at "zz"
    refine fp_Machine_number T ho' fun H2 B2 e2 => ?_
    walk_at "zz"
    exact q H2 (M'.endn eA B2 e2)

theorem rd_Machine_deed {Z : Adr} (T : Top Z) {a0 a1 a2 : V} {H : Hp} {Q : VK} {E : XK} (h : q_Machine_deed Z a0 a1 a2 H Q E) : t_Machine_deed Z (fun cls d _ H => E cls d H) ⟨fun _ H' => Q .non H', Q, fun _ _ => False, fun _ _ => False⟩ [some a0, some a1, some a2, none, none, none] H := by
  unfold t_Machine_deed
  obtain ⟨k, rfl, H0, G, A, x, hs, rs, hp, br, f, fs, N, rfl, rfl, M, hx, C, ok, hN, ⟨k8, k19⟩, q⟩ := h
  replace q : PostM Z H0 A.p hs rs (deedM hp br f fs k) Q := q
  generalize ep : A.p = p at *
  generalize ea : x.a = a at *
  have ho := M.po ep
  have hfo := M.ato hx ea
  unfold deedM at q
  walk_at "zz"
  refine cl_parts_of ⟨k, rfl, fun H1 S1 => ?_⟩
  have M1 := M.same S1
  have hfo1 := M1.ato hx ea
  rw [many_parts k8]
  walk_at "zz"
  refine c_ftake M1 hx ea (fun c => ?_) (fun c l x' A' H' G' ex eA M' hx' hfl hl gl hl0 => ?_)
  · rw [if_pos c] at q
    walk_at "zz"
    exact q _ (M1.end_ ep)
  · rw [if_neg (by omega)] at q
    have eA := eA.trans ep
    have ho' := M'.po eA
    have hf := ok.fr f List.mem_cons_self
    have w := doW_fig (k := k) (vs := f.top (partsN k)) (by omega) ok.few (fun x hx => hf.fv x (top_mem hx)) ok.fig
    have tl : (f.top (partsN k)).length = partsN k := by unfold Fm.top; rw [List.length_drop]; omega
    have post : ∀ {t : Addr} {H2 : Hp} {G2 : Addr → Option Tg} {A2 : MA}, MachAt Z H0 H2 G2 A2 hs rs (doW k (f.top (partsN k)) hp).2 br (f.less (partsN k) :: fs).reverse → A2.p = p → A2.fa[fs.length]? = some x' → H2 t = some (.tup (doW k (f.top (partsN k)) hp).1.vs) →
        gUn Z.K 2 (gCons (gName 4) (gCons (gName 5) gNil)) (.ref t) [some (.ref p), some (.ref a), some (.int k), some (.ref l), none, none] H2 (fun σ H1 => C8.tCut (tIfS (tTest (tOp rIsU (tVar 4) (tC .non))) (tDrop (tMethZ Z.c_Frame "lay" (sp_Frame_lay Z) (WE fun cls d _ H => E cls d H) (tVar 1) (tCons (tVar 5) tNil))) tNext)
          (tRet (tVar 4)) ⟨fun _ H' => Q .non H', Q, fun _ _ => False, fun _ _ => False⟩ σ H1) := by
      intro t H2 G2 A2 M2 eA2 hx2 ht
      cases hw : (doW k (f.top (partsN k)) hp).1 with
      | ok v =>
        rw [hw] at q ht
        replace ht : H2 t = some (.tup [.non, .int v]) := ht
        have hfo2 := M2.ato hx2 ex
        walk_at "zz"
        refine s_cut (fun σ' H' => (∃ G A', MachAt Z H0 H' G A' hs rs (doW k (f.top (partsN k)) hp).2 br ((f.less (partsN k)).lay v :: fs).reverse ∧ A'.p = p) ∧ σ' = [some (.ref p), some (.ref a), some (.int k), some (.ref l), some .non, some (.int v)]) ?_ ?_
        · walk_at "zz"
          refine c_flay M2 hx2 ex (by have := (hf.less (partsN k)).n; omega) fun H3 M3 _ => ?_
          walk_at "zz"
          exact ⟨⟨_, _, M3, eA2⟩, rfl⟩
        · rintro σ' H3 ⟨⟨G3, A3, M3, e3⟩, rfl⟩
          walk_at "zz"
          exact q _ _ _ M3 e3
      | flt s =>
        rw [hw] at q ht
        replace ht : H2 t = some (.tup [.str s, .int 0]) := ht
        walk_at "zz"
        refine s_cut (fun σ' H' => EndAt Z H0 H' p 0 (doW k (f.top (partsN k)) hp).2 ∧ σ' = [some (.ref p), some (.ref a), some (.int k), some (.ref l), some (.str s), some (.int 0)]) ?_ ?_
        · walk_at "zz"
          exact ⟨M2.end_ eA2, rfl⟩
        · rintro σ' H3 ⟨e, rfl⟩
          walk_at "zz"
          exact q _ e
    walk_at "zz"
    by_cases c14 : k ≤ 14
    · have e2 : partsN k = 2 := by unfold partsN; split <;> (try split) <;> (try split) <;> omega
      obtain ⟨a, b, eab⟩ : ∃ a b, f.top (partsN k) = [a, b] := by
        rw [e2] at tl ⊢
        match f.top 2, tl with
        | [a, b], _ => exact ⟨a, b, rfl⟩
      have fa : Fig a := hf.fv a (top_mem (k := partsN k) (by rw [eab]; simp))
      have fb : Fig b := hf.fv b (top_mem (k := partsN k) (by rw [eab]; simp))
      have hd : doW k (f.top (partsN k)) hp = (numW k a b, hp) := by unfold doW; rw [if_pos c14, eab]; rfl
      rw [eab] at hl
      refine cl_worth (.inl ⟨k, a, b, l, rfl, rfl, k8, c14, hl, fa, fb, fun t H2 S2 _ ht => ?_⟩)
      have M2 := M'.same S2
      exact post (A2 := _) (by rw [hd]; exact M2) eA hx' (by rw [hd]; exact ht)
    · have hd : doW k (f.top (partsN k)) hp = rowsW k (f.top (partsN k)) hp := by unfold doW; rw [if_neg c14]
      refine cl_worth (.inr ⟨k, l, A'.lo, f.top (partsN k), A'.as, hp, rfl, rfl, rfl, by omega, k19, tl, hl, M'.heap, (fun z => by rw [M'.ga l z] at gl; cases gl), (fun z => by rw [z, M'.go] at gl; cases gl), by have := ok.few.1; omega, fun c hc => by have := ok.few.2 c hc; omega, fun t as' H2 F2 hA2 hn2 ht0 htn ht => ?_⟩)
      obtain ⟨G2, M2⟩ := M'.heaped F2 hA2 hn2
      exact post (A2 := { A' with as := as' }) (by rw [hd]; exact M2) eA hx' (by rw [hd]; exact ht)

theorem rd_Machine_boxed {Z : Adr} (T : Top Z) {a0 a1 a2 a3 : V} {H : Hp} {Q : VK} {E : XK} (h : q_Machine_boxed Z a0 a1 a2 a3 H Q E) : t_Machine_boxed Z (fun cls d _ H => E cls d H) ⟨fun _ H' => Q .non H', Q, fun _ _ => False, fun _ _ => False⟩ [some a0, some a1, some a2, some a3, none] H := by
  unfold t_Machine_boxed
  obtain ⟨op, k, rfl, rfl, H0, G, A, x, hs, rs, hp, br, f, fs, N, rfl, rfl, M, hx, C, ok, hN, ⟨k0, hop⟩, q⟩ := h
  replace q : PostM Z H0 A.p hs rs (boxM hp br f fs op k) Q := q
  generalize ep : A.p = p at *
  generalize ea : x.a = a at *
  have F := M.at_ hx
  have hfo := M.ato hx ea
  have hfb := F.b
  have hf := ok.fr f List.mem_cons_self
  unfold boxM at q
  walk_at "zz"
  rw [List.length_map]
  refine s_ifd (fun c => ?_) (fun c => ?_)
  · rw [if_pos c] at q
    walk_at "zz"
    exact q _ (M.end_ ep)
  rw [if_neg c] at q
  have hk : k.toNat < f.bx.length := by omega
  walk_at "zz"
  refine s_ifd (fun c1 => ?_) (fun c1 => ?_)
  · rw [if_pos c1] at q
    walk_at "zz"
    refine s_ix_l (v := .int (f.bx.getD k.toNat 0)) (SqL.of hfb) (at_ofN (j := k.toNat) (by omega) (by rw [List.getElem?_map, List.getElem?_eq_getElem hk, List.getD_eq_getElem?_getD, List.getElem?_eq_getElem hk]; rfl)) ?_
    walk_at "zz"
    refine c_flay M hx ea (by have := hf.n; omega) fun H' M' _ => ?_
    walk_at "zz"
    exact q _ _ _ M' ep
  rw [if_neg c1] at q
  walk_at "zz"
  refine c_ftake (k := 1) M hx ea (fun c => ?_) (fun c l x' A' H' G' ex eA M' hx' hfl hl gl _ => ?_)
  · rw [if_pos c] at q
    walk_at "zz"
    exact q _ (M.end_ ep)
  rw [if_neg (by omega)] at q
  have el : ∃ v, f.top 1 = [v] := by
    have : (f.top 1).length = 1 := by unfold Fm.top; rw [List.length_drop]; omega
    match f.top 1, this with
    | [v], _ => exact ⟨v, rfl⟩
  obtain ⟨v, ev⟩ := el
  rw [ev] at hl q
  have eA := eA.trans ep
  have hfo' := M'.ato hx' ex
  walk_at "zz"
  refine s_ixN (m := 0) (SqL.of hl) rfl ?_
  walk_at "zz"
  rw [show k = ((k.toNat : Nat) : Int) by omega]
  refine c_fbox M' hx' hk fun H2 M2 K2 => ?_
  have hl2 := K2 _ _ gl hl
  have hfo2 := M2.ato hx' ex
  walk_at "zz"
  refine s_ixN (m := 0) (SqL.of hl2) rfl ?_
  walk_at "zz"
  refine c_flay M2 hx' ex (by have := (hf.less 1).n; show (f.less 1).vs.length < _; omega) fun H3 M3 _ => ?_
  walk_at "zz"
  exact q _ _ _ M3 eA

theorem rd_Machine_led {Z : Adr} (T : Top Z) {a0 a1 a2 a3 : V} {H : Hp} {Q : VK} {E : XK} (h : q_Machine_led Z a0 a1 a2 a3 H Q E) : t_Machine_led Z (fun cls d _ H => E cls d H) ⟨fun _ H' => Q .non H', Q, fun _ _ => False, fun _ _ => False⟩ [some a0, some a1, some a2, some a3, none, none] H := by
  unfold t_Machine_led
  obtain ⟨op, k, rfl, rfl, H0, G, A, x, hs, rs, hp, br, f, fs, N, rfl, rfl, M, hx, C, ok, hN, ⟨k0, k2⟩, q⟩ := h
  replace q : PostM Z H0 A.p hs rs (ledM hp br f fs op k) Q := q
  generalize ep : A.p = p at *
  generalize ea : x.a = a at *
  have ho := M.po ep
  have hfo := M.ato hx ea
  unfold ledM at q
  walk_at "zz"
  refine c_ftake (k := 1) M hx ea (fun c => ?_) (fun c l x' A' H' G' ex eA M' hx' hfl hl gl _ => ?_)
  · rw [if_pos c] at q
    walk_at "zz"
    exact q _ (M.end_ ep)
  rw [if_neg (by omega)] at q
  have el : ∃ v, f.top 1 = [v] := by
    have : (f.top 1).length = 1 := by unfold Fm.top; rw [List.length_drop]; omega
    match f.top 1, this with
    | [v], _ => exact ⟨v, rfl⟩
  obtain ⟨v, ev⟩ := el
  rw [ev] at hl q
  replace hl : H' l = some (.lst [.int v]) := hl
  simp only [List.getD_cons_zero] at q
  have eA := eA.trans ep
  have hfo' := M'.ato hx' ex
  walk_at "zz"
  refine s_cut (fun σ' H' => ∃ n : Nat, (if op = 5 ∧ v = 0 then k.toNat else if op = 11 then f.at_ + (if 0 ≤ v ∧ v < k then v else k - 1).toNat else f.at_) = (if op = 11 then n + (if 0 ≤ v ∧ v < k then v else k - 1).toNat else n) ∧ MachAt Z H0 H' G' A' hs rs hp br ((f.less 1).go n :: fs).reverse ∧ H' l = some (.lst [.int v]) ∧ σ' = [some (.ref p), some (.ref a), some (.int op), some (.int k), some (.ref l), none]) ?_ ?_
  · have M1 : MachAt Z H0 H' G' A' hs rs hp br ((f.less 1).go f.at_ :: fs).reverse := M'
    walk_at "zz"
    refine s_ifd (fun c5 => ?_) (fun c5 => ?_)
    · walk_at "zz"
      refine s_ixN (m := 0) (SqL.of hl) rfl ?_
      walk_at "zz"
      refine s_ifd (fun cv => ?_) (fun cv => ?_)
      · walk_at "zz"
        rw [show k = ((k.toNat : Nat) : Int) by omega]
        refine c_fat T M' hx' ex fun H2 M2 K2 => ⟨k.toNat, ?_, M2, K2 _ _ gl hl, by rw [show ((k.toNat : Nat) : Int) = k by omega]; rfl⟩
        rw [if_pos ⟨c5, cv⟩, if_neg (by omega)]
        exact Int.toNat_natCast _
      · walk_at "zz"
        exact ⟨f.at_, by rw [if_neg (fun z => cv z.2)], M1, hl, rfl⟩
    · walk_at "zz"
      exact ⟨f.at_, by rw [if_neg (fun z => c5 z.1)], M1, hl, rfl⟩
  · rintro σ' H2 ⟨n, en, M2, hl2, rfl⟩
    rw [en] at q
    have hfo2 := M2.ato hx' ex
    clear M' hl hfo hfo'
    walk_at "zz"
    refine s_cut (fun σ' H' => MachAt Z H0 H' G' A' hs rs hp br ((f.less 1).go (if op = 11 then n + (if 0 ≤ v ∧ v < k then v else k - 1).toNat else n) :: fs).reverse ∧ ∃ x5, σ' = [some (.ref p), some (.ref a), some (.int op), some (.int k), some (.ref l), x5]) ?_ ?_
    · walk_at "zz"
      refine s_ifd (fun c11 => ?_) (fun c11 => ?_)
      · have k2 := k2 c11
        rw [if_pos c11]
        walk_at "zz"
        refine s_cut (fun σ' H' => H2 = H' ∧ σ' = [some (.ref p), some (.ref a), some (.int op), some (.int k), some (.ref l), some (.int (if 0 ≤ v ∧ v < k then v else k - 1))]) ?_ ?_
        · walk_at "zz"
          refine s_ixN (m := 0) (SqL.of hl2) rfl ?_
          walk_at "zz"
          refine s_ifd (D := 0 ≤ v) (fun cv => ?_) (fun cv => ?_)
          · walk_at "zz"
            refine s_ifd (fun cv2 => ?_) (fun cv2 => ?_)
            · walk_at "zz"
              refine s_ixN (m := 0) (SqL.of hl2) rfl ?_
              walk_at "zz"
              exact ⟨rfl, by rw [if_pos ⟨cv, cv2⟩]; rfl⟩
            · walk_at "zz"
              exact ⟨rfl, by rw [if_neg (fun z => cv2 z.2)]; rfl⟩
          · walk_at "zz"
            exact ⟨rfl, by rw [if_neg (fun z => cv z.1)]; rfl⟩
        · rintro σ' H3 ⟨rfl, rfl⟩
          have ht : 0 ≤ (if 0 ≤ v ∧ v < k then v else k - 1) := by split <;> omega
          generalize (if 0 ≤ v ∧ v < k then v else k - 1) = t at *
          replace hfo2 : H2 a = some (.ins Z.c_Frame x'.dx (fs_Frame (.int n) (.ref x'.lb) (.ref x'.lv))) := hfo2
          walk_at "zz"
          rw [show ((n : Int) + t) = ((n + t.toNat : Nat) : Int) by omega]
          exact c_fat T M2 hx' ex fun H4 M4 _ => ⟨M4, _, rfl⟩
      · rw [if_neg c11]
        walk_at "zz"
        exact ⟨M2, _, rfl⟩
    · rintro σ' H3 ⟨M3, x5, rfl⟩
      walk_at "zz"
      exact q _ _ _ M3 eA

theorem rd_Machine_plain_row {Z : Adr} (T : Top Z) {a0 a1 a2 a3 : V} {H : Hp} {Q : VK} {E : XK} (h : q_Machine_plain_row Z a0 a1 a2 a3 H Q E) : t_Machine_plain_row Z (fun cls d _ H => E cls d H) ⟨fun _ H' => Q .non H', Q, fun _ _ => False, fun _ _ => False⟩ [some a0, some a1, some a2, some a3] H := by
  unfold t_Machine_plain_row
  obtain ⟨op, k, rfl, rfl, H0, G, A, x, hs, rs, hp, br, f, fs, N, rfl, rfl, M, hx, C, ok, hN, k0, q⟩ := h
  replace q : PostM Z H0 A.p hs rs (plainM hp br f fs op k) Q := q
  generalize ep : A.p = p at *
  generalize ea : x.a = a at *
  have hfo := M.ato hx ea
  have hf := ok.fr f List.mem_cons_self
  unfold plainM at q
  walk_at "zz"
  refine s_cut (fun σ' H' => MachAt Z H0 H' G A hs rs hp br ((if op = 0 then f.lay k else f) :: fs).reverse ∧ σ' = [some (.ref p), some (.ref a), some (.int op), some (.int k)]) ?_ ?_
  · walk_at "zz"
    refine s_ifd (fun c => ?_) (fun c => ?_)
    · rw [if_pos c]
      walk_at "zz"
      refine c_flay M hx ea (by have := hf.n; omega) fun H2 M2 _ => ?_
      walk_at "zz"
      exact ⟨M2, rfl⟩
    · rw [if_neg c]
      walk_at "zz"
      exact ⟨M, rfl⟩
  rintro σ' H2 ⟨M2, rfl⟩
  walk_at "zz"
  refine s_cut (fun σ' H' => MachAt Z H0 H' G A hs rs hp br ((if op = 0 then f.lay k else if op = 4 then f.go k.toNat else f) :: fs).reverse ∧ σ' = [some (.ref p), some (.ref a), some (.int op), some (.int k)]) ?_ ?_
  · walk_at "zz"
    refine s_ifd (fun c => ?_) (fun c => ?_)
    · have k0 := k0 c
      rw [if_neg (by omega), if_pos c]
      rw [if_neg (by omega)] at M2
      walk_at "zz"
      rw [show k = ((k.toNat : Nat) : Int) by omega]
      exact c_fat T M2 hx ea fun H4 M4 _ => ⟨M4, by rw [show ((k.toNat : Nat) : Int) = k by omega]⟩
    · rw [if_neg c]
      walk_at "zz"
      exact ⟨M2, rfl⟩
  rintro σ' H3 ⟨M3, rfl⟩
  have ho3 := M3.po ep
  walk_at "zz"
  refine s_ifd (fun c => ?_) (fun c => ?_)
  · rw [if_neg (by omega), if_neg (by omega)] at M3
    rw [if_neg (by omega), if_neg (by omega), if_pos c] at q
    unfold breathM at q
    walk_at "zz"
    refine c_breathe M3 ep (fun cb => ?_) (fun cb H2 M2 K2 => ?_)
    · rw [if_pos cb] at q
      exact q _ (M3.end_ ep)
    · rw [if_neg (by omega)] at q
      exact q _ _ _ M2 ep
  · rw [if_neg c] at q
    walk_at "zz"
    by_cases c0 : op = 0
    · rw [if_pos c0] at q M3
      exact q _ _ _ M3 ep
    · rw [if_neg c0] at q M3
      by_cases c4 : op = 4
      · rw [if_pos c4] at q M3
        exact q _ _ _ M3 ep
      · rw [if_neg c4] at q M3
        exact q _ _ _ M3 ep

theorem rd_Machine_step {Z : Adr} (T : Top Z) {a0 a1 : V} {H : Hp} {Q : VK} {E : XK} (h : q_Machine_step Z a0 a1 H Q E) : t_Machine_step Z (fun cls d _ H => E cls d H) ⟨fun _ H' => Q .non H', Q, fun _ _ => False, fun _ _ => False⟩ [some a0, some a1, none, none] H := by
  unfold t_Machine_step
  obtain ⟨H0, G, A, x, hs, rs, hp, br, f, fs, N, rfl, rfl, M, hx, C, ok, hN, hat, q⟩ := h
  replace q : PostM Z H0 A.p hs rs (stepM hs rs hp br f fs) Q := q
  generalize ep : A.p = p at *
  generalize ea : x.a = a at *
  obtain ⟨op, n, e1, e2, opk⟩ := C.row hat
  obtain ⟨v, ev, t, rfl, ht⟩ := M.tr.get e2
  replace ht : H t = some (.tup [.int op, .int n]) := ht
  unfold stepM at q
  rw [e1] at q
  simp only [List.getD_cons_succ, List.getD_cons_zero] at q
  have ho := M.po ep
  have hfo := M.ato hx ea
  have hr := M.hr
  walk_at "zz"
  refine s_ixN (SqL.of hr) ev ?_
  walk_at "zz"
  rw [show ((f.at_ : Int) + 1) = ((f.at_ + 1 : Nat) : Int) by omega]
  refine c_fat T M hx ea fun H1 M1 _ => ?_
  have ok1 : MOk N hp (f.go (f.at_ + 1)) fs := ⟨ok.few, ok.fig, ok.two, fun x hx => by
    rcases List.mem_cons.mp hx with z | z
    · rw [z]; exact (ok.fr f List.mem_cons_self).go _
    · exact ok.fr x (List.mem_cons_of_mem _ z), ok.dep⟩
  generalize f.go (f.at_ + 1) = g at *
  unfold opM at q
  walk_at "zz"
  intro t1 ht1
  refine s_in_t (SqT.of upd_same) rfl rfl ?_
  rw [show inV (.int op) [V.int 1, .int 2] = decide (op = 1 ∨ op = 2) from (inV_ints op [1, 2]).trans (by simp)]
  have M2 := M1.new (o := .tup [V.int 1, .int 2]) ht1
  generalize upd H1 t1 (.tup [V.int 1, .int 2]) = H2 at *
  have ho2 := M2.po ep
  walk_at "zz"
  refine s_ifd (fun c => ?_) (fun c => ?_)
  · rw [if_pos c] at q
    walk_at "zz"
    exact cl_Machine_boxed ⟨op, n, rfl, rfl, H0, G, A, x, hs, rs, hp, br, g, fs, N, by rw [ep], by rw [ea], M2, hx, C, ok1, hN, ⟨by unfold OpOK at opk; omega, c⟩, by rw [ep]; exact q⟩
  rw [if_neg c] at q
  walk_at "zz"
  intro t2 ht2
  refine s_in_t (SqT.of upd_same) rfl rfl ?_
  rw [show inV (.int op) [V.int 3, .int 5, .int 11] = decide (op = 3 ∨ op = 5 ∨ op = 11) from (inV_ints op [3, 5, 11]).trans (by simp)]
  have M3 := M2.new (o := .tup [V.int 3, .int 5, .int 11]) ht2
  generalize upd H2 t2 (.tup [V.int 3, .int 5, .int 11]) = H3 at *
  have ho3 := M3.po ep
  walk_at "zz"
  refine s_ifd (fun c => ?_) (fun c => ?_)
  · rw [if_pos c] at q
    walk_at "zz"
    exact cl_Machine_led ⟨op, n, rfl, rfl, H0, G, A, x, hs, rs, hp, br, g, fs, N, by rw [ep], by rw [ea], M3, hx, C, ok1, hN, ⟨by unfold OpOK at opk; omega, fun z => by unfold OpOK at opk; omega⟩, by rw [ep]; exact q⟩
  rw [if_neg c] at q
  walk_at "zz"
  refine s_ifd (fun c => ?_) (fun c => ?_)
  · rw [if_pos c] at q
    walk_at "zz"
    exact cl_Machine_call ⟨n, rfl, H0, G, A, x, hs, rs, hp, br, g, fs, N, by rw [ep], by rw [ea], M3, hx, C, ok1, hN, (by unfold OpOK at opk; omega), by rw [ep]; exact q⟩
  rw [if_neg c] at q
  walk_at "zz"
  refine s_ifd (fun c => ?_) (fun c => ?_)
  · rw [if_pos c] at q
    walk_at "zz"
    exact cl_Machine_back ⟨H0, G, A, x, hs, rs, hp, br, g, fs, N, by rw [ep], by rw [ea], M3, hx, C, ok1, hN, trivial, by rw [ep]; exact q⟩
  rw [if_neg c] at q
  walk_at "zz"
  refine s_ifd (fun c => ?_) (fun c => ?_)
  · rw [if_pos c] at q
    walk_at "zz"
    exact cl_Machine_fail ⟨H0, G, A, x, hs, rs, hp, br, g, fs, N, by rw [ep], by rw [ea], M3, hx, C, ok1, hN, trivial, by rw [ep]; exact q⟩
  rw [if_neg c] at q
  walk_at "zz"
  refine s_ifd (fun c => ?_) (fun c => ?_)
  · rw [if_pos c] at q
    walk_at "zz"
    exact cl_Machine_deed ⟨n, rfl, H0, G, A, x, hs, rs, hp, br, g, fs, N, by rw [ep], by rw [ea], M3, hx, C, ok1, hN, (by unfold OpOK at opk; omega), by rw [ep]; exact q⟩
  rw [if_neg c] at q
  walk_at "zz"
  exact cl_Machine_plain_row ⟨op, n, rfl, rfl, H0, G, A, x, hs, rs, hp, br, g, fs, N, by rw [ep], by rw [ea], M3, hx, C, ok1, hN, (fun z => by unfold OpOK at opk; omega), by rw [ep]; exact q⟩

theorem rd_Machine_go_on {Z : Adr} (T : Top Z) {a0 a1 : V} {H : Hp} {Q : VK} {E : XK} (h : q_Machine_go_on Z a0 a1 H Q E) : t_Machine_go_on Z (fun cls d _ H => E cls d H) ⟨fun _ H' => Q .non H', Q, fun _ _ => False, fun _ _ => False⟩ [some a0, some a1, none, none, none] H := by
  unfold t_Machine_go_on
  obtain ⟨H0, G, A, hs, rs, given, br, most, k, rfl, rfl, M, C, hgl, hgf, ⟨k1, k2, k3⟩, q⟩ := h
  generalize ep : A.p = p at *
  have ho := M.po ep
  obtain ⟨s, pp, b, e1, e2, s0, s1, p0, p4, pb, b12, pz⟩ := C.c.head (i := 0) (by have := C.c.h1; omega)
  have pz := pz rfl
  walk_at "zz"
  refine c_breathe M ep (fun cb => ?_) (fun cb H1 M1 K1 => ?_)
  · have eg : goM hs rs given br k = (("breath" : Str), (0 : Int), [given, []]) := by unfold goM; rw [if_pos cb]
    rw [eg] at q
    walk_at "zz"
    refine s_cut (fun σ' H' => EndAt Z H0 H' p 0 [given, []] ∧ σ' = [some (.ref p), some (.int most), some (.str "breath"), none, none]) ?_ ?_
    · walk_at "zz"
      exact ⟨M.end_ ep, rfl⟩
    rintro σ' H1 ⟨e, rfl⟩
    walk_at "zz"
    refine s_while (fun m σ' H' => EndAt Z H0 H' p 0 [given, []] ∧ σ' = [some (.ref p), some (.int most), some (.str "breath"), some (.int 0), none]) 0 ⟨e, rfl⟩ ?_
    rintro m σ' H2 ⟨e, rfl⟩
    walk_at "zz"
    exact q _ e
  · have eg : ∀ j, goM hs rs given br j = runM hs rs j [given, []] (br - 1) (begM hs) [] := fun j => by unfold goM; rw [if_neg (by omega)]
    rw [eg] at q k3
    have ho1 := M1.po ep
    walk_at "zz"
    refine s_cut (fun σ' H' => (∃ G A, MachAt Z H0 H' G A hs rs [given, []] (br - 1) [begM hs] ∧ A.p = p) ∧ σ' = [some (.ref p), some (.int most), some .non, none, none]) ?_ ?_
    · walk_at "zz"
      intro l0 hl0
      have M2 := M1.new (o := .lst []) hl0
      refine cl_Machine_begin ⟨H0, G, A, hs, rs, _, br - 1, [], 0, l0, [], by rw [ep], rfl, rfl, M2, C.c, by have := C.c.h1; omega, upd_same, Nat.zero_le _, Nat.zero_le _, fun H3 G3 A3 M3 e3 => ?_⟩
      walk_at "zz"
      refine ⟨⟨G3, A3, ?_, e3.trans ep⟩, rfl⟩
      have eb : begM hs = ⟨((hs.getD 0 []).getD 0 0).toNat, [] ++ List.replicate ((hs.getD 0 []).getD 2 0 - (hs.getD 0 []).getD 1 0).toNat 0, []⟩ := by
        unfold begM
        rw [e1]
        simp [pz]
      rw [eb]
      exact M3
    rintro σ' H2 ⟨⟨G2, A2, M2, e3⟩, rfl⟩
    walk_at "zz"
    have okb : MOk 3000000 [given, []] (begM hs) [] := by
      refine ⟨⟨by show 2 ≤ 3000000; omega, fun c hc => ?_⟩, fun c hc x hx => ?_, Nat.le_refl _, fun g hg => ?_, by show 0 < 16; omega⟩
      · rcases List.mem_cons.mp hc with z | z
        · rw [z]; exact hgl
        · rw [List.mem_singleton.mp z]; exact Nat.zero_le _
      · rcases List.mem_cons.mp hc with z | z
        · rw [z] at hx; exact hgf x hx
        · rw [List.mem_singleton.mp z] at hx; cases hx
      · rw [List.mem_singleton.mp hg]
        unfold begM
        rw [e1]
        refine ⟨Nat.zero_le _, ?_, fun x hx => ?_, fun x hx => by cases hx⟩
        · show (List.replicate b.toNat 0).length ≤ 12
          rw [List.length_replicate]; omega
        · rw [List.eq_of_mem_replicate hx]; exact fig0
    refine s_while (fun m σ' H' => (∃ G A hp br' f fs, ∃ j : Nat, m = j + 1 ∧ j ≤ k ∧ MachAt Z H0 H' G A hs rs hp br' (f :: fs).reverse ∧ A.p = p ∧ MOk (3000000 + (k - j)) hp f fs ∧ runM hs rs k [given, []] (br - 1) (begM hs) [] = runM hs rs j hp br' f fs ∧
        ∃ x4, σ' = [some (.ref p), some (.int most), some .non, some (.int ((k - j : Nat) : Int)), x4]) ∨
      (m = 0 ∧ ∃ x3 x4, EndAt Z H0 H' p (runM hs rs k [given, []] (br - 1) (begM hs) []).2.1 (runM hs rs k [given, []] (br - 1) (begM hs) []).2.2 ∧ σ' = [some (.ref p), some (.int most), some (.str (runM hs rs k [given, []] (br - 1) (begM hs) []).1), x3, x4]))
      (k + 1) (.inl ⟨G2, A2, _, _, begM hs, [], k, rfl, Nat.le_refl _, M2, e3, by rw [Nat.sub_self]; exact okb, rfl, none, by rw [Nat.sub_self]; rfl⟩) ?_
    rintro m σ' H3 (⟨G3, A3, hp, br', f, fs, j, rfl, hj, M3, ep3, ok3, er, x4, rfl⟩ | ⟨rfl, x3, x4, e, rfl⟩)
    rotate_left
    · walk_at "zz"
      exact q _ e
    have ho3 := M3.po ep3
    have hlf3 := M3.lf
    have hr3 := M3.hr
    have hlen := M3.frs.len
    rw [List.length_reverse, List.length_cons] at hlen
    obtain ⟨x, hx⟩ : ∃ x, A3.fa[fs.length]? = some x := ⟨_, List.getElem?_eq_getElem (by omega)⟩
    have hf3 := M3.ato hx rfl
    have lr3 := M3.tr.len
    walk_at "zz"
    refine s_ix_l (v := .ref x.a) (SqL.of hlf3) (at_neg1 (by rw [List.length_map, hlen, List.getElem?_map, show fs.length + 1 - 1 = fs.length by omega, hx]; rfl)) ?_
    walk_at "zz"
    rw [lr3]
    refine s_ifd (fun c => ?_) (fun c => ?_)
    · have e0 : runM hs rs j hp br' f fs = (("stray" : Str), (0 : Int), hp) := runM_stray (by omega)
      walk_at "zz"
      refine ⟨0, by omega, .inr ⟨rfl, ?_⟩⟩
      rw [er, e0]
      exact ⟨_, _, M3.end_ ep3, rfl⟩
    · walk_at "zz"
      refine s_ifd (fun c2 => ?_) (fun c2 => ?_)
      · have hj0 : j = 0 := by omega
        subst hj0
        have e0 : runM hs rs 0 hp br' f fs = (("rows" : Str), (0 : Int), hp) := runM_rows (by omega)
        walk_at "zz"
        refine ⟨0, by omega, .inr ⟨rfl, ?_⟩⟩
        rw [er, e0]
        exact ⟨_, _, M3.end_ ep3, rfl⟩
      · obtain ⟨j', rfl⟩ : ∃ j', j = j' + 1 := by
          cases j with
          | zero =>
            exfalso
            have e0 : runM hs rs 0 hp br' f fs = (("rows" : Str), (0 : Int), hp) := runM_rows (by omega)
            exact k3 (by omega) (by rw [er, e0])
          | succ j' => exact ⟨j', rfl⟩
        walk_at "zz"
        refine cl_Machine_step ⟨H0, G3, A3, x, hs, rs, hp, br', f, fs, _, by rw [ep3], rfl, M3, hx, C.c, ok3, by omega, by omega, ?_⟩
        rw [ep3]
        show PostM Z H0 p hs rs (stepM hs rs hp br' f fs) _
        cases hst : stepM hs rs hp br' f fs with
        | on hp2 br2 f2 fs2 =>
          have es := runM_on (k := j') (by omega : ¬ rs.length ≤ f.at_) hst
          intro H4 G4 A4 M4 e4
          walk_at "zz"
          have := step_ok C (by omega) ok3 (by omega) hst
          refine ⟨j' + 1, by omega, .inl ⟨G4, A4, hp2, br2, f2, fs2, j', rfl, by omega, M4, e4, this.mono (by omega), by rw [er, es], ?_⟩⟩
          rw [show (((k - (j' + 1) : Nat) : Int) + 1) = ((k - j' : Nat) : Int) by omega]
          exact ⟨_, rfl⟩
        | fin w n hp2 =>
          have es := runM_fin (k := j') (by omega : ¬ rs.length ≤ f.at_) hst
          intro H4 e4
          walk_at "zz"
          refine ⟨0, by omega, .inr ⟨rfl, ?_⟩⟩
          rw [er, es]
          exact ⟨_, _, e4, rfl⟩

theorem rd_go {Z : Adr} (T : Top Z) {a0 a1 a2 a3 : V} {H : Hp} {Q : VK} {E : XK} (h : q_go Z a0 a1 a2 a3 H Q E) : t_go Z (fun cls d _ H => E cls d H) ⟨fun _ H' => Q .non H', Q, fun _ _ => False, fun _ _ => False⟩ [some a0, some a1, some a2, some a3, none, none] H := by
  unfold t_go
  rcases h with h | ⟨hn, q⟩
  rotate_left
  · walk_at "zz"
    intro p dx hp hdx hne
    have S1 : Same H (upd (upd H dx (.own p)) p (.ins Z.c_Machine dx [])) := fun a o e => by
      rw [upd_ne (ne_of_none e hp), upd_ne (ne_of_none e hdx)]; exact e
    refine cl_Machine_init (.inr ⟨p, dx, rfl, upd_same, hn.same S1, fun H' S => ?_⟩)
    exact q _ (S1.trans S)
  obtain ⟨lc, lg, xs, given, hs, rs, br, most, k, rfl, rfl, rfl, rfl, hc, I, C, hxl, hg, hgl, hgf, En, q⟩ := h
  walk_at "zz"
  intro p dx hp hdx hne
  have S1 : Same H (upd (upd H dx (.own p)) p (.ins Z.c_Machine dx [])) := fun a o e => by
    rw [upd_ne (ne_of_none e hp), upd_ne (ne_of_none e hdx)]; exact e
  refine cl_Machine_init (.inl ⟨H, p, dx, lc, lg, xs, given, hs, rs, br, rfl, rfl, rfl, rfl, upd_same, S1, hp, S1.seq hc, I, hxl, S1.seq hg, fun H2 G A M ep => ⟨rfl, ?_⟩⟩)
  have ho := M.po ep
  walk_at "zz"
  refine cl_Machine_go_on ⟨H, G, A, hs, rs, given, br, most, k, by rw [ep], rfl, M, C, hgl, hgf, En, fun H3 e3 => ?_⟩
  rw [ep] at e3
  have h2 := go_len (hs := hs) (rs := rs) (given := given) (br := br) (k := k)
  generalize goM hs rs given br k = r at *
  obtain ⟨w, n, hp3⟩ := r
  obtain ⟨S3, dx3, v1, v2, v4, v5, lo, as, ho3, hA⟩ := e3
  replace hA : HeapAt H3 lo as hp3 := hA
  replace h2 : 2 ≤ hp3.length := h2
  have l1 : 1 < as.length := by rw [hA.len]; omega
  obtain ⟨c, ec, hc1⟩ := hA.row 1 _ (List.getElem?_eq_getElem l1)
  have htop := hA.top
  walk_at "zz"
  refine s_ixN (m := 1) (v := .ref as[1]) (SqL.of htop) (by rw [List.getElem?_map, List.getElem?_eq_getElem l1]; rfl) ?_
  walk_at "zz"
  intro l hl
  walk_at "zz"
  intro t ht
  have S4 := S3.trans (same_new (o := .lst (c.map V.int)) hl)
  refine q t l _ (S4.trans (same_new ht)) (S4.free ht) (S3.free hl) (ne_of_none upd_same ht).symm upd_same (up_new ht ?_)
  rw [upd_same, show ((w, n, hp3) : Str × Int × List (List Int)).2.2.getD 1 [] = c by rw [List.getD_eq_getElem?_getD, ec]; rfl]

theorem rd_Lpen {Z : Adr} (T : Top Z) {a0 : V} {H : Hp} {Q : VK} {E : XK} (h : q_Lpen Z a0 H Q E) : t_Lpen Z (fun cls d _ H => E cls d H) ⟨fun _ H' => Q .non H', Q, fun _ _ => False, fun _ _ => False⟩ [some a0] H := by
  unfold t_Lpen
  obtain ⟨sa, ns, rfl, hS, q⟩ := h
  walk_at "zz"
  intro p hp
  exact q p _ (same_new hp) hp ⟨sa, ns, [0, 0, 0], hS.same (same_new hp), rfl, by simp, upd_same⟩

theorem rd_Lmixed {Z : Adr} (T : Top Z) {a0 a1 : V} {H : Hp} {Q : VK} {E : XK} (h : q_Lmixed Z a0 a1 H Q E) : t_Lmixed Z (fun cls d _ H => E cls d H) ⟨fun _ H' => Q .non H', Q, fun _ _ => False, fun _ _ => False⟩ [some a0, some a1, none] H := by
  unfold t_Lmixed
  obtain ⟨c, k, rfl, rfl, q⟩ := h
  walk_at "zz"
  repeat (refine s_mulp (by omega) ?_; walk_at "zz")
  exact q _

theorem rd_Ltake {Z : Adr} (T : Top Z) {a0 a1 : V} {H : Hp} {Q : VK} {E : XK} (h : q_Ltake Z a0 a1 H Q E) : t_Ltake Z (fun cls d _ H => E cls d H) ⟨fun _ H' => Q .non H', Q, fun _ _ => False, fun _ _ => False⟩ [some a0, some a1, none, none] H := by
  unfold t_Ltake
  obtain ⟨p, m, rfl, rfl, hm, hm2, ⟨sa, ns, ks, hS, hk3, hk0, hp⟩, q⟩ := h
  obtain ⟨k, l, u, rfl⟩ : ∃ k l u, ks = [k, l, u] := by
    match ks, hk3 with
    | [k, l, u], _ => exact ⟨k, l, u, rfl⟩
  have hk : 0 ≤ k := hk0 k (by simp)
  have hl : 0 ≤ l := hk0 l (by simp)
  have hu : 0 ≤ u := hk0 u (by simp)
  clear hk0 hk3
  have hsq := hS.sq
  have pn : ∀ {H' : Hp} {k l u : Int}, But p H H' → 0 ≤ k → 0 ≤ l → 0 ≤ u → H' p = some (.lst [.ref sa, .int k, .int l, .int u]) → Pn Z.K PN H' p := fun B h1 h2 h3 e => ⟨sa, ns, [_, _, _], hS.but B, rfl, by simp; exact ⟨h1, h2, h3⟩, e⟩
  walk_at "zz"
  refine s_cut (fun σ' H' => ∃ (k' l' u' : Int) (x2 x3 : Option V), But p H H' ∧ H' p = some (.lst [.ref sa, .int k', .int l', .int u']) ∧ 0 ≤ k' ∧ 0 ≤ l' ∧ 0 ≤ u' ∧ σ' = [some (.ref p), some (.int m), x2, x3]) ?_ ?_
  · walk_at "zz"
    refine s_ix_l (SqL.of hp) (v := .int l) rfl ?_
    walk_at "zz"
    refine s_ifd (fun c => ?_) (fun c => ?_)
    · walk_at "zz"
      refine s_cut (fun σ' H' => H' = H ∧ ∃ c : Int, σ' = [some (.ref p), some (.int m), some (.int c), none]) ?_ ?_
      · walk_at "zz"
        refine s_ix_l (SqL.of hp) (v := .ref sa) rfl ?_
        walk_at "zz"
        rw [List.length_map]
        refine s_ifd (fun c => ?_) (fun c => ?_)
        · walk_at "zz"
          refine s_ix_l (SqL.of hp) (v := .ref sa) rfl ?_
          walk_at "zz"
          refine s_ix_l (SqL.of hp) (v := .int k) rfl ?_
          walk_at "zz"
          refine s_ix_l (SqL.of hp) (v := .ref sa) rfl ?_
          walk_at "zz"
          rw [List.length_map]
          refine s_modp c ?_
          walk_at "zz"
          obtain ⟨w, hw, ew⟩ := at_ints ns (i := k % ns.length) (Int.emod_nonneg _ (by omega)) (Int.emod_lt_of_pos _ c)
          refine s_ix_l hsq ew ?_
          walk_at "zz"
          exact ⟨rfl, _, rfl⟩
        · walk_at "zz"
          exact ⟨rfl, _, rfl⟩
      · rintro σ' H' ⟨rfl, c, rfl⟩
        walk_at "zz"
        refine s_ix_l (SqL.of hp) (v := .int k) rfl ?_
        walk_at "zz"
        refine c_setL 1 [.ref sa, .int (k + 1), .int l, .int u] hp rfl rfl fun H1 B1 hp1 => ?_
        have hS1 := hS.but B1
        have hsq1 := hS1.sq
        walk_at "zz"
        have mixed : ∀ {b1 c1 : L2.St → Hp → Prop} {N1 : L2.St → Hp → Prop} {σ1 : L2.St}, σ1 = [some (.ref p), some (.int m), some (.int c), none] → (tSeq (tAsg (tOp (rAddU Z.K) (tOp (rIx Z.K) (tVar 0) (tC (.int 3))) (tC (.int 1))) (gSub (tVar 0) (tC (.int 3)) rSetL))
            (tRet (tOp rMod (tCallS (sp_Lmixed Z) (WE (fun cls d _ H => E cls d H)) (tCons (tVar 2) (tCons (tOp (rIx Z.K) (tVar 0) (tC (.int 3))) tNil))) (tVar 1)))) ⟨N1, Q, b1, c1⟩ σ1 H1 := by
          rintro b1 c1 N1 σ1 rfl
          walk_at "zz"
          refine s_ix_l (SqL.of hp1) (v := .int u) rfl ?_
          walk_at "zz"
          refine c_setL 3 [.ref sa, .int (k + 1), .int l, .int (u + 1)] hp1 rfl rfl fun H2 B2 hp2 => ?_
          walk_at "zz"
          refine s_ix_l (SqL.of hp2) (v := .int (u + 1)) rfl ?_
          walk_at "zz"
          refine cl_Lmixed ⟨c, u + 1, rfl, rfl, fun z => ?_⟩
          walk_at "zz"
          exact q _ _ (Int.emod_nonneg _ (by omega)) (Int.emod_lt_of_pos _ hm) (pn (B1.trans B2) (by omega) hl (by omega) hp2) (B1.trans B2)
        refine s_ifd (fun c1 => ?_) (fun c1 => ?_)
        · walk_at "s"
          walk_at "s"
          exact mixed rfl
        · walk_at "zz"
          refine s_ix_l (SqL.of hp1) (v := .int (k + 1)) rfl ?_
          walk_at "zz"
          refine s_ix_l (SqL.of hp1) (v := .ref sa) rfl ?_
          walk_at "zz"
          rw [List.length_map]
          refine s_ifd (fun c2 => ?_) (fun c2 => ?_)
          · exact mixed rfl
          · walk_at "zz"
            refine c_setL 2 [.ref sa, .int (k + 1), .int c, .int u] hp1 rfl rfl fun H2 B2 hp2 => ?_
            walk_at "zz"
            exact ⟨k + 1, c, u, _, _, B1.trans B2, hp2, by omega, by omega, hu, rfl⟩
    · walk_at "zz"
      exact ⟨k, l, u, _, _, But.refl _ _, hp, hk, hl, hu, rfl⟩
  · rintro σ' H' ⟨k', l', u', x2, x3, B, hp', hk', hl', hu', rfl⟩
    walk_at "zz"
    refine s_ix_l (SqL.of hp') (v := .int l') rfl ?_
    walk_at "zz"
    refine s_ix_l (SqL.of hp') (v := .int l') rfl ?_
    walk_at "zz"
    refine s_fdvq ⟨hm, hm2⟩ ?_
    walk_at "zz"
    refine c_setL 2 [.ref sa, .int k', .int (l' / m), .int u'] hp' rfl rfl fun H2 B2 hp2 => ?_
    walk_at "zz"
    exact q _ _ (Int.emod_nonneg _ (by omega)) (Int.emod_lt_of_pos _ hm) (pn (B.trans B2) hk' (Int.ediv_nonneg hl' (by omega)) hu' hp2) (B.trans B2)

theorem rd_Lnumber {Z : Adr} (T : Top Z) {a0 : V} {H : Hp} {Q : VK} {E : XK} (h : q_Lnumber Z a0 H Q E) : t_Lnumber Z (fun cls d _ H => E cls d H) ⟨fun _ H' => Q .non H', Q, fun _ _ => False, fun _ _ => False⟩ [some a0] H := by
  unfold t_Lnumber
  obtain ⟨p, rfl, P, q⟩ := h
  walk_at "zz"
  refine c_take (by omega) P fun v H1 v0 v1 P1 B1 => ?_
  walk_at "zz"
  refine s_ifd (fun c => ?_) (fun c => ?_)
  · walk_at "zz"
    intro l hl
    walk_at "zz"
    refine c_take (by omega) (by walk_at "st") fun w H2 w0 w1 P2 B2 => ?_
    walk_at "zz"
    refine s_ixI [10 ^ 50, 0 - 10 ^ 50, 10 ^ 40 - 1, 0 - 7] (SqL.of (B2.rd (P1.ne hl) upd_same)) rfl w0 w1 fun x hx _ => ?_
    have hx' : -10 ^ 60 ≤ x ∧ x ≤ 10 ^ 60 := by simp at hx; omega
    exact q _ _ hx'.1 hx'.2 P2 (by walk_at "bt")
  · walk_at "zz"
    refine c_take (by omega) P1 fun w H2 w0 w1 P2 B2 => ?_
    walk_at "zz"
    exact q _ _ (by omega) (by omega) P2 (B1.trans B2)

theorem rd_Lneeds {Z : Adr} (T : Top Z) {a0 a1 a2 : V} {H : Hp} {Q : VK} {E : XK} (h : q_Lneeds Z a0 a1 a2 H Q E) : t_Lneeds Z (fun cls d _ H => E cls d H) ⟨fun _ H' => Q .non H', Q, fun _ _ => False, fun _ _ => False⟩ [some a0, some a1, some a2] H := by
  unfold t_Lneeds
  obtain ⟨op, n, lh, hs, vs, m, rfl, rfl, rfl, hlh, th, pre, ok, q⟩ := h
  walk_at "zz"
  refine s_ifd (fun c => ?_) (fun c => ?_)
  · have hn : 0 ≤ n ∧ n.toNat < hs.length := by unfold OpOK at ok; omega
    obtain ⟨v, ev, t, rfl, ht⟩ := th.get (List.getElem?_eq_getElem hn.2)
    obtain ⟨s, p, b, e, _⟩ := pre _ _ (List.getElem?_eq_getElem hn.2)
    rw [e] at ht
    walk_at "zz"
    refine s_ix_l (SqL.of hlh) (at_ofN (j := n.toNat) (by omega) ev) ?_
    walk_at "zz"
    refine s_ix_t (SqT.of ht) (v := .int p) rfl ?_
    exact q _ _ (Same.refl _)
  walk_at "zz"
  refine s_ifd (fun c2 => ?_) (fun c2 => ?_)
  · walk_at "zz"
    intro l hl
    walk_at "zz"
    refine s_ixI [2, 2, 2, 2, 2, 2, 2, 2, 2, 3, 1, 0] (SqL.of upd_same) rfl (by unfold OpOK at ok; omega) (by show _ < (12 : Int); unfold OpOK at ok; omega) fun w _ _ => ?_
    exact q _ _ (same_new hl)
  · walk_at "zz"
    intro l hl
    walk_at "zz"
    refine s_ixI [0, 0, 1, 1, 0, 1, 0, 1, 1, 0, 0, 1] (SqL.of upd_same) rfl (by unfold OpOK at ok; omega) (by show _ < (12 : Int); unfold OpOK at ok; omega) fun w _ _ => ?_
    exact q _ _ (same_new hl)

theorem rd_Lrow {Z : Adr} (T : Top Z) {a0 a1 a2 a3 : V} {H : Hp} {Q : VK} {E : XK} (h : q_Lrow Z a0 a1 a2 a3 H Q E) : t_Lrow Z (fun cls d _ H => E cls d H) ⟨fun _ H' => Q .non H', Q, fun _ _ => False, fun _ _ => False⟩ [some a0, some a1, some a2, some a3, none, none] H := by
  unfold t_Lrow
  obtain ⟨p, ht, m, lh, hs, vs, rfl, rfl, rfl, rfl, hm, hm2, hne, P, hlh, th, pre, hs0, hs1, q⟩ := h
  have ex : ∀ (H' : Hp), But p H H' → H' lh = some (.lst vs) := fun H' B => B.rd hne hlh
  have lenv : vs.length = hs.length := th.len
  walk_at "zz"
  intro l1 hl1
  walk_at "zz"
  refine c_take (by omega) (by walk_at "st") fun v H1 v0 v1 P1 B1 => ?_
  have hl2 := B1.rd (P.ne hl1) upd_same
  have B01 : But p H H1 := by walk_at "bt"
  walk_at "zz"
  refine s_ixI [0, 0, 0, 1, 1, 2, 3, 4, 5, 6, 6, 7, 8, 9, 10, 10, 10, 11, 0, 10] (SqL.of hl2) rfl v0 v1 fun op hop _ => ?_
  have hop' : 0 ≤ op ∧ op ≤ 11 := by simp at hop; omega
  clear hop hl2 B1 hl1
  walk_at "zz"
  have mid : ∀ {L : List Int} {n x : Int}, (op ∈ L → OpF op x hs.length m) → (op ∉ L → x = 0) → ¬ op = n → (op ∈ n :: L → OpF op x hs.length m) ∧ (op ∉ n :: L → x = 0) := fun h1 h2 h3 => by
    constructor
    · intro h; rcases List.mem_cons.mp h with e | e
      · exact absurd e h3
      · exact h1 e
    · intro h; exact h2 fun z => h (List.mem_cons_of_mem _ z)
  refine s_cut (fun σ' H' => ∃ x : Int, But p H H' ∧ Pn Z.K PN H' p ∧ σ' = [some (.ref p), some (.int ht), some (.int m), some (.ref lh), some (.int op), some (.int x)] ∧ (op ∈ [0] → OpF op x hs.length m) ∧ (op ∉ [0] → x = 0)) ?_ ?_
  · walk_at "zz"
    refine s_ifd (fun c => ?_) (fun c => ?_)
    · walk_at "zz"
      refine cl_Lnumber ⟨p, rfl, P1, fun v H2 z0 z1 P2 B2 => ?_⟩
      walk_at "zz"
      exact ⟨v, B01.trans B2, P2, rfl, fun _ => ⟨.inl c, z0, z1⟩, fun z => absurd (by simpa using c) z⟩
    · walk_at "zz"
      exact ⟨0, B01, P1, rfl, fun z => absurd (by simpa using z) c, fun _ => rfl⟩
  clear P1 B01 v0 v1
  rintro σ' H2 ⟨x, B2, P2, rfl, o1, o2⟩
  walk_at "zz"
  refine s_cut (fun σ' H' => ∃ x : Int, But p H H' ∧ Pn Z.K PN H' p ∧ σ' = [some (.ref p), some (.int ht), some (.int m), some (.ref lh), some (.int op), some (.int x)] ∧ (op ∈ [1, 2, 0] → OpF op x hs.length m) ∧ (op ∉ [1, 2, 0] → x = 0)) ?_ ?_
  · walk_at "zz"
    intro t1 ht1
    refine s_in_t (SqT.of upd_same) rfl rfl ?_
    rw [show inV (.int op) [V.int 1, .int 2] = decide (op = 1 ∨ op = 2) from (inV_ints op [1, 2]).trans (by simp)]
    have P3 : Pn Z.K PN (upd H2 t1 (.tup [V.int 1, .int 2])) p := by walk_at "st"
    have B3 : But p H (upd H2 t1 (.tup [V.int 1, .int 2])) := by walk_at "bt"
    generalize upd H2 t1 (.tup [V.int 1, .int 2]) = H3 at *
    walk_at "zz"
    refine s_ifd (fun c => ?_) (fun c => ?_)
    · walk_at "zz"
      intro l3 hl3
      walk_at "zz"
      refine c_take (by omega) (by walk_at "st") fun v H4 v0 v1 P4 B4 => ?_
      walk_at "zz"
      refine s_ixI [3, 3, 12] (SqL.of (B4.rd (P3.ne hl3) upd_same)) rfl v0 v1 fun w hw _ => ?_
      have hw' : 0 < w ∧ w ≤ 12 := by simp at hw; omega
      walk_at "zz"
      refine c_take (by omega) P4 fun v5 H5 v50 v51 P5 B5 => ?_
      walk_at "zz"
      exact ⟨v5, (B3.trans ((But.of (same_new hl3)).trans B4)).trans B5, P5, rfl, fun _ => ⟨.inr (.inl ⟨c, v50, by omega⟩), by omega, by omega⟩, fun z => absurd (by simp; omega) z⟩
    · walk_at "zz"
      have a := mid o1 o2 (n := 2) (by omega)
      have a := mid a.1 a.2 (n := 1) (by omega)
      exact ⟨x, B3, P3, rfl, a.1, a.2⟩
  clear B2 P2 o1 o2
  rintro σ' H2 ⟨x, B2, P2, rfl, o1, o2⟩
  walk_at "zz"
  refine s_cut (fun σ' H' => ∃ x : Int, But p H H' ∧ Pn Z.K PN H' p ∧ σ' = [some (.ref p), some (.int ht), some (.int m), some (.ref lh), some (.int op), some (.int x)] ∧ (op ∈ [4, 5, 1, 2, 0] → OpF op x hs.length m) ∧ (op ∉ [4, 5, 1, 2, 0] → x = 0)) ?_ ?_
  · walk_at "zz"
    intro t1 ht1
    refine s_in_t (SqT.of upd_same) rfl rfl ?_
    rw [show inV (.int op) [V.int 4, .int 5] = decide (op = 4 ∨ op = 5) from (inV_ints op [4, 5]).trans (by simp)]
    have P3 : Pn Z.K PN (upd H2 t1 (.tup [V.int 4, .int 5])) p := by walk_at "st"
    have B3 : But p H (upd H2 t1 (.tup [V.int 4, .int 5])) := by walk_at "bt"
    generalize upd H2 t1 (.tup [V.int 4, .int 5]) = H3 at *
    walk_at "zz"
    refine s_ifd (fun c => ?_) (fun c => ?_)
    · walk_at "zz"
      refine c_take (by omega) P3 fun v5 H5 v50 v51 P5 B5 => ?_
      walk_at "zz"
      exact ⟨v5, B3.trans B5, P5, rfl, fun _ => ⟨.inr (.inr (.inl ⟨c, v50, by omega⟩)), by omega, by omega⟩, fun z => absurd (by simp; omega) z⟩
    · walk_at "zz"
      have a := mid o1 o2 (n := 5) (by omega)
      have a := mid a.1 a.2 (n := 4) (by omega)
      exact ⟨x, B3, P3, rfl, a.1, a.2⟩
  clear B2 P2 o1 o2
  rintro σ' H2 ⟨x, B2, P2, rfl, o1, o2⟩
  walk_at "zz"
  refine s_cut (fun σ' H' => ∃ x : Int, But p H H' ∧ Pn Z.K PN H' p ∧ σ' = [some (.ref p), some (.int ht), some (.int m), some (.ref lh), some (.int op), some (.int x)] ∧ (op ∈ [6, 4, 5, 1, 2, 0] → OpF op x hs.length m) ∧ (op ∉ [6, 4, 5, 1, 2, 0] → x = 0)) ?_ ?_
  · have hl2 := ex _ B2
    walk_at "zz"
    refine s_ifd (fun c => ?_) (fun c => ?_)
    · walk_at "zz"
      rw [lenv]
      refine c_take (by omega) P2 fun v5 H5 v50 v51 P5 B5 => ?_
      walk_at "zz"
      exact ⟨v5, B2.trans B5, P5, rfl, fun _ => ⟨.inr (.inr (.inr (.inl ⟨c, v50, by omega⟩))), by omega, by omega⟩, fun z => absurd (by simp; omega) z⟩
    · walk_at "zz"
      have a := mid o1 o2 (n := 6) c
      exact ⟨x, B2, P2, rfl, a.1, a.2⟩
  clear B2 P2 o1 o2
  rintro σ' H2 ⟨x, B2, P2, rfl, o1, o2⟩
  walk_at "zz"
  refine s_cut (fun σ' H' => ∃ x : Int, But p H H' ∧ Pn Z.K PN H' p ∧ σ' = [some (.ref p), some (.int ht), some (.int m), some (.ref lh), some (.int op), some (.int x)] ∧ (op ∈ [10, 6, 4, 5, 1, 2, 0] → OpF op x hs.length m) ∧ (op ∉ [10, 6, 4, 5, 1, 2, 0] → x = 0)) ?_ ?_
  · walk_at "zz"
    refine s_ifd (fun c => ?_) (fun c => ?_)
    · walk_at "zz"
      refine c_take (by omega) P2 fun v5 H5 v50 v51 P5 B5 => ?_
      walk_at "zz"
      exact ⟨8 + v5, B2.trans B5, P5, rfl, fun _ => ⟨.inr (.inr (.inr (.inr (.inr (.inl ⟨c, by omega, by omega⟩))))), by omega, by omega⟩, fun z => absurd (by simp; omega) z⟩
    · walk_at "zz"
      have a := mid o1 o2 (n := 10) c
      exact ⟨x, B2, P2, rfl, a.1, a.2⟩
  clear B2 P2 o1 o2
  rintro σ' H2 ⟨x, B2, P2, rfl, o1, o2⟩
  walk_at "zz"
  refine s_cut (fun σ' H' => ∃ x : Int, But p H H' ∧ Pn Z.K PN H' p ∧ σ' = [some (.ref p), some (.int ht), some (.int m), some (.ref lh), some (.int op), some (.int x)] ∧ OpF op x hs.length m) ?_ ?_
  · walk_at "zz"
    refine s_ifd (fun c => ?_) (fun c => ?_)
    · walk_at "zz"
      refine c_take (by omega) P2 fun v3 H3 v30 v31 P3 B3 => ?_
      walk_at "zz"
      intro l3 hl3
      walk_at "zz"
      refine c_take (by omega) (by walk_at "st") fun v H4 v0 v1 P4 B4 => ?_
      walk_at "zz"
      refine s_ixI [2, 3, 2 + v3] (SqL.of (B4.rd (P3.ne hl3) upd_same)) rfl v0 v1 fun w hw _ => ?_
      have hw' : 2 ≤ w ∧ w ≤ 12 := by simp at hw; omega
      walk_at "zz"
      exact ⟨w, (B2.trans B3).trans ((But.of (same_new hl3)).trans B4), P4, rfl, ⟨.inr (.inr (.inr (.inr (.inr (.inr ⟨c, hw'⟩))))), by omega, by omega⟩⟩
    · walk_at "zz"
      refine ⟨x, B2, P2, rfl, ?_⟩
      by_cases z : op ∈ [10, 6, 4, 5, 1, 2, (0 : Int)]
      · exact o1 z
      · have x0 := o2 z
        simp at z
        exact ⟨.inr (.inr (.inr (.inr (.inl ⟨by omega, x0⟩)))), by omega, by omega⟩
  clear B2 P2 o1 o2
  rintro σ' H2 ⟨x, B2, P2, rfl, ok⟩
  have hl2 := ex _ B2
  have th2 := th.mono (P.tups B2)
  walk_at "zz"
  refine cl_Lneeds ⟨op, x, lh, hs, vs, m, rfl, rfl, rfl, hl2, th2, pre, ok.1, fun i H3 S3 => ?_⟩
  have P3 : Pn Z.K PN H3 p := by walk_at "st"
  have B3 : But p H H3 := by walk_at "bt"
  walk_at "zz"
  have fin : ∀ {H' : Hp} {b0 c0 : L2.St → Hp → Prop}, But p H H' → Pn Z.K PN H' p → tRet (tTup (tCons (tVar 4) (tCons (tVar 5) tNil))) ⟨fun _ H' => Q .non H', Q, b0, c0⟩ [some (.ref p), some (.int ht), some (.int m), some (.ref lh), some (.int op), some (.int x)] H' := fun B P => by
    walk_at "zz"
    intro t ht
    exact q t op x _ (by walk_at "bt") (by walk_at "st") upd_same ok
  refine s_ifd (fun c => ?_) (fun c => ?_)
  · walk_at "zz"
    refine c_take (by omega) P3 fun v4 H4 v40 v41 P4 B4 => ?_
    walk_at "zz"
    refine s_ifd (fun c => ?_) (fun c => ?_)
    · walk_at "zz"
      refine cl_Lnumber ⟨p, rfl, P4, fun v H5 z0 z1 P5 B5 => ?_⟩
      walk_at "zz"
      intro t ht
      exact q t 0 v _ (by walk_at "bt") (by walk_at "st") upd_same ⟨.inl rfl, z0, z1⟩
    · refine s_next ?_
      exact fin (by walk_at "bt") P4
  · refine s_iff ?_
    refine s_next ?_
    exact fin (by walk_at "bt") P3

theorem rd_Lheight {Z : Adr} (T : Top Z) {a0 a1 a2 a3 : V} {H : Hp} {Q : VK} {E : XK} (h : q_Lheight Z a0 a1 a2 a3 H Q E) : t_Lheight Z (fun cls d _ H => E cls d H) ⟨fun _ H' => Q .non H', Q, fun _ _ => False, fun _ _ => False⟩ [some a0, some a1, some a2, some a3, none] H := by
  unfold t_Lheight
  obtain ⟨op, n, lh, hs, vs, m, ht, rfl, rfl, rfl, rfl, hlh, th, pre, ok, q⟩ := h
  walk_at "zz"
  intro t1 ht1
  have S1 := same_new (o := .tup [V.int 4, .int 7, .int 8]) ht1
  refine s_in_t (SqT.of upd_same) rfl rfl ?_
  walk_at "zz"
  refine s_ifk (fun c => ?_) (fun c => ?_)
  · walk_at "zz"
    exact q _ _ S1
  walk_at "zz"
  refine cl_Lneeds ⟨op, n, lh, hs, vs, m, rfl, rfl, rfl, S1 _ _ hlh, th.mono (TupS.of S1), pre, ok, fun i H2 S2 => ?_⟩
  walk_at "zz"
  intro t2 ht2
  refine s_in_t (SqT.of upd_same) rfl rfl ?_
  walk_at "zz"
  exact q _ _ ((S1.trans S2).trans (same_new ht2))

theorem rd_Lcode {Z : Adr} (T : Top Z) {a0 : V} {H : Hp} {Q : VK} {E : XK} (h : q_Lcode Z a0 H Q E) : t_Lcode Z (fun cls d _ H => E cls d H) ⟨fun _ H' => Q .non H', Q, fun _ _ => False, fun _ _ => False⟩ [some a0, none, none, none, none, none, none, none, none] H := by
  unfold t_Lcode
  obtain ⟨p, rfl, P, q⟩ := h
  have big : 1000000 ≤ sizeLine := by decide
  walk_at "zz"
  refine c_take (by omega) P fun v H1 v0 v1 P1 B1 => ?_
  obtain ⟨m, hm⟩ : ∃ m : Nat, 1 + v = (m : Int) := ⟨(1 + v).toNat, by omega⟩
  walk_at "zz"
  rw [hm]
  intro lh hlh
  walk_at "zz"
  have nlh := P1.ne hlh
  have hlh0 : H lh = none := B1.none nlh hlh
  refine c_take (by omega) (by walk_at "st") fun v2 H2 v20 v21 P2 B2 => ?_
  have hlh2 := B2.rd nlh upd_same
  walk_at "zz"
  intro l3 hl3
  walk_at "zz"
  refine c_take (by omega) (by walk_at "st") fun v4 H4 v40 v41 P4 B4 => ?_
  have hlh4 := B4.rd nlh (up_new (u := .lst [.int 1, .int 2, .int 3, .int (1 + v2)]) hl3 hlh2)
  have B04 : But p H H4 := by walk_at "bt"
  walk_at "zz"
  refine s_ixI [1, 2, 3, 1 + v2] (SqL.of (B4.rd (P2.ne hl3) upd_same)) rfl v40 v41 fun w hw _ => ?_
  obtain ⟨fs, rfl⟩ : ∃ fs : Nat, w = (fs : Int) := ⟨w.toNat, by simp at hw; omega⟩
  have hfs : 1 ≤ fs ∧ fs ≤ 16 := by simp at hw; omega
  walk_at "zz"
  rw [Int.toNat_natCast]
  clear hw v40 v41 v20 v21 hl3
  refine loop_range (fun i σ' H' => But p H H' ∧ Pn Z.K PN H' p ∧ (∃ hs vs, H' lh = some (.lst vs) ∧ TupsAt H' hs vs ∧ PreH hs ∧ hs.length = i) ∧ ∃ x3 x4, σ' = [some (.ref p), some (.int m), some (.ref lh), x3, x4, none, none, none, none])
    ⟨B04, P4, ⟨[], [], hlh4, Row.nil, fun i h e => by simp at e, rfl⟩, _, _, rfl⟩ ?_ ?_
  · clear B04 P4 hlh4 B4 P2 B2 hlh2 P1 B1
    rintro i σ' H5 hi ⟨B5, P5, ⟨hs, vs, hl, th, pre, hsl⟩, x3, x4, rfl⟩
    have nlh := nlh
    have lenv := th.len
    rw [show (0 : Int) + (i : Int) = i by omega]
    walk_at "zz"
    refine c_take (by omega) P5 fun a H6 a0 a1 P6 B6 => ?_
    have hl6 := B6.rd nlh hl
    obtain ⟨pa, hpa⟩ : ∃ pa, pa = a * (if decide ((0 : Int) < (i : Int)) = true then 1 else 0) := ⟨_, rfl⟩
    have hpa2 : 0 ≤ pa ∧ pa ≤ (if 0 < i then 4 else 0) := by
      rw [hpa]
      by_cases z : 0 < i
      · rw [if_pos (by simpa using z), if_pos z]; omega
      · rw [if_neg (by simpa using z), if_neg z]; omega
    have hpa3 : pa ≤ 4 := by have := hpa2.2; split at this <;> omega
    walk_at "zz"
    rw [← hpa]
    walk_at "zz"
    intro l1 hl1
    walk_at "zz"
    refine c_take (by omega) (by walk_at "st") fun b H7 b0 b1 P7 B7 => ?_
    have hl7 := B7.rd nlh (up_new (u := .lst [.int 3, .int (13 - pa)]) hl1 hl6)
    walk_at "zz"
    refine s_ixI [3, 13 - pa] (SqL.of (B7.rd (P6.ne hl1) upd_same)) rfl b0 b1 fun w hw _ => ?_
    have hw' : 0 < w ∧ pa + w ≤ 13 := by simp at hw; omega
    walk_at "zz"
    refine c_take (by omega) P7 fun c H8 c0 c1 P8 B8 => ?_
    have hl8 := B8.rd nlh hl7
    have B58 : But p H5 H8 := (B6.trans ((But.of (same_new hl1)).trans B7)).trans B8
    walk_at "zz"
    intro lt hlt
    have S9 : Same H8 (upd H8 lt (.tup [.int 0, .int pa, .int (pa + c)])) := same_new hlt
    have h9 : upd H8 lt (.tup [.int 0, .int pa, .int (pa + c)]) lt = some (.tup ([0, pa, pa + c].map V.int)) := upd_same
    have th9 := th.mono ((P5.tups B58).trans (TupS.of S9))
    have hl9 := S9 _ _ hl8
    have P9 := P8.same S9
    generalize upd H8 lt (.tup [.int 0, .int pa, .int (pa + c)]) = H9 at *
    walk_at "zz"
    refine c_append hl9 (by omega) fun H10 B10 h10 => ?_
    have T10 := TupS.butL B10 hl9
    walk_at "zz"
    refine ⟨(B5.trans (B58.trans (But.of S9))).own B10 hlh0, P9.butN B10 nlh, ⟨_, _, h10, (th9.mono T10).app ⟨lt, rfl, T10 _ _ h9⟩, fun j h e => ?_, by rw [List.length_append, hsl]; rfl⟩, _, _, rfl⟩
    · by_cases z : j < hs.length
      · rw [List.getElem?_append_left z] at e
        exact pre j h e
      · rw [List.getElem?_append_right (by omega)] at e
        have z2 := (List.getElem?_eq_some_iff.mp e).1
        simp at z2
        have : j = i := by omega
        subst this
        rw [hsl, Nat.sub_self] at e
        cases e
        exact ⟨0, pa, pa + c, rfl, hpa2.1, hpa2.2, by omega, by omega⟩
  clear B04 P4 hlh4 B4 P2 B2 hlh2 P1 B1 hlh
  rintro σ' H5 ⟨B5, P5, ⟨hs, vs, hl, th, pre, hsl⟩, x3, x4, rfl⟩
  have lenv := th.len
  walk_at "zz"
  intro lr hlr
  walk_at "zz"
  intro lf hlf
  have S7 : Same H5 (upd (upd H5 lr (.lst [])) lf (.lst [])) := (same_new hlr).trans (same_new hlf)
  have hlr0 : H lr = none := B5.none (P5.ne hlr) hlr
  have nlr := P5.ne hlr
  have P6 : Pn Z.K PN (upd H5 lr (.lst [])) p := P5.new hlr
  have nlf := P6.ne hlf
  have hlf0 : H lf = none := (B5.new hlr).none nlf hlf
  have nrf : lr ≠ lf := ne_of_none upd_same hlf
  have nhr : lh ≠ lr := ne_of_none hl hlr
  have nhf : lh ≠ lf := ne_of_none (same_new hlr _ _ hl) hlf
  have P7 := P6.new (o := .lst []) hlf
  have B7 := B5.trans (But.of (p := p) S7)
  have hl7 := S7 _ _ hl
  have th7 := th.mono (TupS.of S7)
  have hr7 : upd (upd H5 lr (.lst [])) lf (.lst []) lr = some (.lst []) := up_new hlf upd_same
  have hf7 : upd (upd H5 lr (.lst [])) lf (.lst []) lf = some (.lst []) := upd_same
  generalize upd (upd H5 lr (.lst [])) lf (.lst []) = H7 at *
  walk_at "zz"
  rw [Int.toNat_natCast]
  clear S7 P5 B5 hl th hlr hlf P6
  refine loop_range (fun i σ' H' => But p H H' ∧ Pn Z.K PN H' p ∧ H' lh = some (.lst vs) ∧ TupsAt H' hs vs ∧ (∃ rs ws, H' lr = some (.lst ws) ∧ TupsAt H' rs ws ∧ rs.length = i ∧ ∀ r ∈ rs, RowF r hs.length m) ∧
      ∃ (fl : List Int) (x3 : Option V) (ht : Int), H' lf = some (.lst (fl.map V.int)) ∧ fl.length ≤ i ∧ (∀ x ∈ fl, 0 ≤ x ∧ x < m) ∧ (i = 0 → ht = 0) ∧ (0 < i → 0 < fl.length) ∧ σ' = [some (.ref p), some (.int m), some (.ref lh), x3, x4, some (.ref lr), some (.ref lf), some (.int ht), none])
    ⟨B7, P7, hl7, th7, ⟨[], [], hr7, Row.nil, rfl, by simp⟩, [], _, 0, hf7, Nat.le_refl _, by simp, fun _ => rfl, fun h => absurd h (Nat.lt_irrefl _), rfl⟩ ?_ ?_
  · clear B7 P7 hl7 th7 hr7 hf7 x3
    rintro i σ' H8 hi ⟨B8, P8, hl8, th8, ⟨rs, ws, hr8, tr8, hrl, hrok⟩, fl, x3, ht, hf8, hfl, hfb, hht, hfp, rfl⟩
    rw [show (0 : Int) + (i : Int) = i by omega]
    walk_at "zz"
    refine s_cut (fun σ' H' => But p H H' ∧ Pn Z.K PN H' p ∧ H' lh = some (.lst vs) ∧ TupsAt H' hs vs ∧ H' lr = some (.lst ws) ∧ TupsAt H' rs ws ∧
      ∃ (fl : List Int), H' lf = some (.lst (fl.map V.int)) ∧ fl.length ≤ i + 1 ∧ (∀ x ∈ fl, 0 ≤ x ∧ x < m) ∧ 0 < fl.length ∧ σ' = [some (.ref p), some (.int m), some (.ref lh), some (.int i), x4, some (.ref lr), some (.ref lf), some (.int ht), none]) ?_ ?_
    · walk_at "zz"
      refine s_ifd (fun c => ?_) (fun c => ?_)
      · walk_at "zz"
        refine c_append hf8 (by rw [List.length_map]; omega) fun H9 B9 h9 => ?_
        have T9 := TupS.butL B9 hf8
        walk_at "zz"
        refine ⟨B8.own B9 hlf0, P8.butN B9 nlf, B9.rd nhf hl8, th8.mono T9, B9.rd nrf hr8, tr8.mono T9, fl ++ [(i : Int)], by rw [h9, List.map_append]; rfl, by rw [List.length_append]; simp; omega, fun x hx => ?_, by simp, rfl⟩
        rcases List.mem_append.mp hx with z | z
        · exact hfb x z
        · rw [List.mem_singleton.mp z]; omega
      · walk_at "zz"
        exact ⟨B8, P8, hl8, th8, hr8, tr8, fl, hf8, by omega, hfb, hfp (by omega), rfl⟩
    · clear B8 P8 hl8 th8 hr8 tr8 hf8 hfl hfb hfp fl
      rintro σ' H8 ⟨B8, P8, hl8, th8, hr8, tr8, fl, hf8, hfl, hfb, hfp, rfl⟩
      walk_at "zz"
      refine cl_Lrow ⟨p, ht, m, lh, hs, vs, rfl, rfl, rfl, rfl, by omega, by omega, nlh, P8, hl8, th8, pre, by omega, by omega, fun t op n H9 B9 P9 ht9 ok => ?_⟩
      have T9 := P8.tups B9
      have hr9 := B9.rd nlr hr8
      have hf9 := B9.rd nlf hf8
      have hl9 := B9.rd nlh hl8
      have lenw := tr8.len
      walk_at "zz"
      refine c_append hr9 (by omega) fun H10 B10 h10 => ?_
      have T10 := TupS.butL B10 hr9
      have hl10 := B10.rd nhr hl9
      have th10 := th8.mono (T9.trans T10)
      have ht10 := T10 _ _ ht9
      have ei : (ws ++ [V.ref t])[i]? = some (.ref t) := by rw [List.getElem?_append_right (by omega), show i - ws.length = 0 by omega]; rfl
      walk_at "zz"
      refine s_ixN (SqL.of h10) ei ?_
      walk_at "zz"
      refine s_ix_t (SqT.of ht10) (v := .int op) rfl ?_
      walk_at "zz"
      refine s_ixN (SqL.of h10) ei ?_
      walk_at "zz"
      refine s_ix_t (SqT.of ht10) (v := .int n) rfl ?_
      walk_at "zz"
      refine cl_Lheight ⟨op, n, lh, hs, vs, m, ht, rfl, rfl, rfl, rfl, hl10, th10, pre, ok.1, fun x H11 S11 => ?_⟩
      walk_at "zz"
      have TS := TupS.of S11
      refine ⟨((B8.trans B9).own B10 hlr0).trans (But.of S11), (P9.butN B10 nlr).same S11, S11 _ _ hl10, th10.mono TS, ⟨rs ++ [[op, n]], _, S11 _ _ h10, TupsAt.mono TS (Row.app (tr8.mono (T9.trans T10)) (show TupI H10 [op, n] (.ref t) from ⟨t, rfl, ht10⟩)), by rw [List.length_append, hrl]; rfl, fun r hr => ?_⟩, fl, _, x, S11 _ _ (B10.rd nrf.symm hf9), hfl, hfb, fun z => absurd z (by omega), fun _ => hfp, rfl⟩
      rcases List.mem_append.mp hr with z | z
      · exact hrok r z
      · rw [List.mem_singleton.mp z]; exact ⟨op, n, rfl, ok⟩
  clear B7 P7 hl7 th7 hr7 hf7 x3
  rintro σ' H8 ⟨B8, P8, hl8, th8, ⟨rs, ws, hr8, tr8, hrl, hrok⟩, fl, x3, ht, hf8, hfl, hfb, hht, hfp, rfl⟩
  have hfp := hfp (by omega)
  walk_at "zz"
  refine loop_range (fun i σ' H' => But p H H' ∧ Pn Z.K PN H' p ∧ (∃ hs vs, H' lh = some (.lst vs) ∧ TupsAt H' hs vs ∧ PreH hs ∧ hs.length = fs ∧ ∀ j h, j < i → hs[j]? = some h → HeadOK h j rs.length) ∧ H' lr = some (.lst ws) ∧ TupsAt H' rs ws ∧ H' lf = some (.lst (fl.map V.int)) ∧
      ∃ (x3 x8 : Option V), σ' = [some (.ref p), some (.int m), some (.ref lh), x3, x4, some (.ref lr), some (.ref lf), some (.int ht), x8])
    ⟨B8, P8, ⟨hs, vs, hl8, th8, pre, hsl, fun j h hj => by omega⟩, hr8, tr8, hf8, _, _, rfl⟩ ?_ ?_
  · rw [lenv, hsl]
    rw [hsl] at hrok
    clear B8 P8 hl8 th8 hr8 tr8 hf8 pre hsl lenv x3 vs hs
    rintro i σ' H9 hi ⟨B9, P9, ⟨hs, vs, hl9, th9, pre, hsl, hok⟩, hr9, tr9, hf9, x3, x8, rfl⟩
    have hi2 : i < hs.length := by omega
    have lenv := th9.len
    obtain ⟨s0, pa, b, e, pa0, pa1, b0, b1⟩ := pre i _ (List.getElem?_eq_getElem hi2)
    obtain ⟨v0, ev, t0, rfl, ht0⟩ := th9.get (List.getElem?_eq_getElem hi2)
    rw [e] at ht0
    rw [show (0 : Int) + (i : Int) = i by omega]
    walk_at "zz"
    rw [List.length_map]
    refine c_take (by omega) P9 fun w H10 w0 w1 P10 B10 => ?_
    have hf10 := B10.rd nlf hf9
    have hl10 := B10.rd nlh hl9
    have T10 := P9.tups B10
    walk_at "zz"
    refine s_ixI fl (SqL.of hf10) rfl w0 (by omega) fun st hst _ => ?_
    have hst' := hfb st hst
    walk_at "zz"
    refine s_cut (fun σ' H' => But p H H' ∧ Pn Z.K PN H' p ∧ H' lh = some (.lst vs) ∧ TupsAt H' hs vs ∧ H' lr = some (.lst ws) ∧ TupsAt H' rs ws ∧ H' lf = some (.lst (fl.map V.int)) ∧ ∃ st : Int, 0 ≤ st ∧ st < m ∧
       σ' = [some (.ref p), some (.int m), some (.ref lh), some (.int i), x4, some (.ref lr), some (.ref lf), some (.int ht), some (.int st)]) ?_ ?_
    · have done : ∀ {H' : Hp}, But p H9 H' → Pn Z.K PN H' p → ∀ st : Int, 0 ≤ st → st < m → But p H H' ∧ Pn Z.K PN H' p ∧ H' lh = some (.lst vs) ∧ TupsAt H' hs vs ∧ H' lr = some (.lst ws) ∧ TupsAt H' rs ws ∧ H' lf = some (.lst (fl.map V.int)) ∧ ∃ st' : Int, 0 ≤ st' ∧ st' < m ∧
          [some (.ref p), some (.int m), some (.ref lh), some (.int i), x4, some (.ref lr), some (.ref lf), some (.int ht), some (.int st)] = [some (.ref p), some (.int m), some (.ref lh), some (.int i), x4, some (.ref lr), some (.ref lf), some (.int ht), some (.int st')] := fun B P st s0 s1 =>
        ⟨B9.trans B, P, B.rd nlh hl9, th9.mono (P9.tups B), B.rd nlr hr9, tr9.mono (P9.tups B), B.rd nlf hf9, st, s0, s1, rfl⟩
      walk_at "zz"
      refine s_ifd (fun c => ?_) (fun c => ?_)
      · walk_at "zz"
        refine c_take (by omega) P10 fun w2 H11 w20 w21 P11 B11 => ?_
        walk_at "zz"
        refine s_ifd (fun c => ?_) (fun c => ?_)
        · walk_at "zz"
          exact done (B10.trans B11) P11 0 (by omega) (by omega)
        · walk_at "zz"
          exact done (B10.trans B11) P11 st hst'.1 hst'.2
      · walk_at "zz"
        exact done B10 P10 st hst'.1 hst'.2
    · clear P10 B10 hf10 hl10 T10 hst hst' w0 w1
      rintro σ' H10 ⟨B10, P10, hl10, th10, hr10, tr10, hf10, st, st0, st1, rfl⟩
      obtain ⟨v1, ev1, t1, rfl, ht1⟩ := th10.get (List.getElem?_eq_getElem hi2)
      rw [e] at ht1
      walk_at "zz"
      refine s_ixN (SqL.of hl10) ev1 ?_
      walk_at "zz"
      refine s_ix_t (SqT.of ht1) (v := .int pa) rfl ?_
      walk_at "zz"
      refine s_ixN (SqL.of hl10) ev1 ?_
      walk_at "zz"
      refine s_ix_t (SqT.of ht1) (v := .int b) rfl ?_
      walk_at "zz"
      intro lt hlt
      have S11 : Same H10 (upd H10 lt (.tup [.int st, .int pa, .int b])) := same_new hlt
      have h11 : upd H10 lt (.tup [.int st, .int pa, .int b]) lt = some (.tup ([st, pa, b].map V.int)) := upd_same
      have P11 := P10.same S11
      have hl11 := S11 _ _ hl10
      have hr11 := S11 _ _ hr10
      have hf11 := S11 _ _ hf10
      have th11 := th10.mono (TupS.of S11)
      have tr11 := tr10.mono (TupS.of S11)
      generalize upd H10 lt (.tup [.int st, .int pa, .int b]) = H11 at *
      walk_at "zz"
      refine c_setL i (vs.set i (.ref lt)) hl11 (ixN_nat (by omega)) rfl fun H12 B12 h12 => ?_
      have T12 := TupS.butL B12 hl11
      walk_at "zz"
      refine ⟨(B10.trans (But.of S11)).own B12 hlh0, P11.butN B12 nlh, ⟨hs.set i [st, pa, b], _, h12, (th11.mono T12).set ⟨lt, rfl, T12 _ _ h11⟩, fun j h ej => ?_, by rw [List.length_set]; exact hsl, fun j h hj ej => ?_⟩, B12.rd nhr.symm hr11, tr11.mono T12, B12.rd nhf.symm hf11, _, _, rfl⟩
      · by_cases c : i = j
        · subst c
          rw [List.getElem?_set_self hi2] at ej
          cases ej
          exact ⟨st, pa, b, rfl, pa0, pa1, b0, b1⟩
        · rw [List.getElem?_set_ne c] at ej
          exact pre j h ej
      · by_cases c : i = j
        · subst c
          rw [List.getElem?_set_self hi2] at ej
          cases ej
          exact ⟨st, pa, b, rfl, st0, by omega, pa0, pa1, b0, b1⟩
        · rw [List.getElem?_set_ne c] at ej
          exact hok j h (by omega) ej
  · rw [lenv, hsl]
    rw [hsl] at hrok
    rintro σ' H9 ⟨B9, P9, ⟨hs, vs, hl9, th9, pre, hsl, hok⟩, hr9, tr9, hf9, x3, x8, rfl⟩
    walk_at "zz"
    intro t ht
    have S := same_new (o := .tup [.ref lh, .ref lr]) ht
    refine q t lh lr vs ws hs rs _ (by walk_at "bt") (by walk_at "st") upd_same nlh nlr (S _ _ hl9) (S _ _ hr9) (th9.mono (TupS.of S)) (tr9.mono (TupS.of S)) ⟨by omega, by omega, by omega, fun j h e => hok j h (by have := (List.getElem?_eq_some_iff.mp e).1; omega) e, fun r hr => ?_⟩ (fun r hr => ?_) (by omega)
    · rw [hsl, hrl]
      obtain ⟨op, n, e, ok, _⟩ := hrok r hr
      exact ⟨op, n, e, ok⟩
    · obtain ⟨op, n, e, _, b⟩ := hrok r hr
      rw [e]; exact b

theorem rd_Lword {Z : Adr} (T : Top Z) {a0 : V} {H : Hp} {Q : VK} {E : XK} (h : q_Lword Z a0 H Q E) : t_Lword Z (fun cls d _ H => E cls d H) ⟨fun _ H' => Q .non H', Q, fun _ _ => False, fun _ _ => False⟩ [some a0, none] H := by
  unfold t_Lword
  rcases h with ⟨rfl, q⟩ | ⟨p, rfl, hp, q⟩
  · walk_at "zz"
    exact q _ (Same.refl _)
  · walk_at "zz"
    intro t ht
    have S1 := same_new (o := .tup [.ref Z.c_NoSheet, .ref Z.c_NoText, .ref Z.c_NoRow, .ref Z.c_NoName]) ht
    refine s_isNt (S1 _ _ hp) T.kx_NoCode upd_same (.cons (.own _) (.cons (.own _) (.cons (.own _) (.cons (.own _) .nil)))) (kitAny_no T.ki_NoCode_NoSheet (kitAny_no T.ki_NoCode_NoText (kitAny_no T.ki_NoCode_NoRow (kitAny_no T.ki_NoCode_NoName kitAny_nil)))) ?_
    have hp1 := S1 _ _ hp
    generalize upd H t _ = H1 at *
    walk_at "zz"
    intro l hl
    have S2 := same_new (o := .lst [.str "other", .str "code"]) hl
    have hp2 := S2 _ _ hp1
    walk_at "zz"
    refine s_isNo hp2 T.kx_NoCode T.ki_NoCode_NoCode ?_
    walk_at "zz"
    refine s_isNv hp2 T.kx_NoCode T.kv_NoCode ?_
    walk_at "zz"
    refine s_ixN (m := 1) (SqL.of upd_same) rfl ?_
    exact q _ (S1.trans S2)

theorem rd_Lbad_row {Z : Adr} (T : Top Z) {a0 a1 a2 : V} {H : Hp} {Q : VK} {E : XK} (h : q_Lbad_row Z a0 a1 a2 H Q E) : t_Lbad_row Z (fun cls d _ H => E cls d H) ⟨fun _ H' => Q .non H', Q, fun _ _ => False, fun _ _ => False⟩ [some a0, some a1, some a2, none] H := by
  unfold t_Lbad_row
  obtain ⟨p, n, m, rfl, rfl, rfl, n1, m1, P, q⟩ := h
  have big : 1000000 ≤ sizeLine := by decide
  walk_at "zz"
  intro a0 ha0
  walk_at "zz"
  intro a1 ha1
  walk_at "zz"
  intro a2 ha2
  walk_at "zz"
  intro a3 ha3
  walk_at "zz"
  intro a4 ha4
  walk_at "zz"
  intro a5 ha5
  walk_at "zz"
  intro a6 ha6
  walk_at "zz"
  intro a7 ha7
  walk_at "zz"
  intro a8 ha8
  walk_at "zz"
  intro a9 ha9
  walk_at "zz"
  intro a10 ha10
  walk_at "zz"
  intro al hal
  have N_a : TupsAt (upd (upd (upd (upd (upd (upd (upd (upd (upd (upd (upd (upd H a0 (.tup [.int (12), .int (0)])) a1 (.tup [.int (-1), .int (0)])) a2 (.tup [.int (1), .int (12)])) a3 (.tup [.int (1), .int (-1)])) a4 (.tup [.int (2), .int (12)])) a5 (.tup [.int (2), .int (-3)])) a6 (.tup [.int (3), .int (1)])) a7 (.tup [.int (4), .int (n)])) a8 (.tup [.int (4), .int (-1)])) a9 (.tup [.int (5), .int (n)])) a10 (.tup [.int (5), .int (-1)])) al (.lst [V.ref a0, V.ref a1, V.ref a2, V.ref a3, V.ref a4, V.ref a5, V.ref a6, V.ref a7, V.ref a8, V.ref a9, V.ref a10])) [[12, 0], [-1, 0], [1, 12], [1, -1], [2, 12], [2, -3], [3, 1], [4, n], [4, -1], [5, n], [5, -1]] [V.ref a0, V.ref a1, V.ref a2, V.ref a3, V.ref a4, V.ref a5, V.ref a6, V.ref a7, V.ref a8, V.ref a9, V.ref a10] := TupsAt.mono (TupS.new (o := .lst [V.ref a0, V.ref a1, V.ref a2, V.ref a3, V.ref a4, V.ref a5, V.ref a6, V.ref a7, V.ref a8, V.ref a9, V.ref a10]) hal) (show TupsAt (upd (upd (upd (upd (upd (upd (upd (upd (upd (upd (upd H a0 (.tup [.int (12), .int (0)])) a1 (.tup [.int (-1), .int (0)])) a2 (.tup [.int (1), .int (12)])) a3 (.tup [.int (1), .int (-1)])) a4 (.tup [.int (2), .int (12)])) a5 (.tup [.int (2), .int (-3)])) a6 (.tup [.int (3), .int (1)])) a7 (.tup [.int (4), .int (n)])) a8 (.tup [.int (4), .int (-1)])) a9 (.tup [.int (5), .int (n)])) a10 (.tup [.int (5), .int (-1)])) [[12, 0], [-1, 0], [1, 12], [1, -1], [2, 12], [2, -3], [3, 1], [4, n], [4, -1], [5, n], [5, -1]] [V.ref a0, V.ref a1, V.ref a2, V.ref a3, V.ref a4, V.ref a5, V.ref a6, V.ref a7, V.ref a8, V.ref a9, V.ref a10] from tup_more (tup_more (tup_more (tup_more (tup_more (tup_more (tup_more (tup_more (tup_more (tup_more (tup_more ((Row.nil : TupsAt H [] [])) ha0 [12, 0]) ha1 [-1, 0]) ha2 [1, 12]) ha3 [1, -1]) ha4 [2, 12]) ha5 [2, -3]) ha6 [3, 1]) ha7 [4, n]) ha8 [4, -1]) ha9 [5, n]) ha10 [5, -1])
  have S_a : Same H (upd (upd (upd (upd (upd (upd (upd (upd (upd (upd (upd (upd H a0 (.tup [.int (12), .int (0)])) a1 (.tup [.int (-1), .int (0)])) a2 (.tup [.int (1), .int (12)])) a3 (.tup [.int (1), .int (-1)])) a4 (.tup [.int (2), .int (12)])) a5 (.tup [.int (2), .int (-3)])) a6 (.tup [.int (3), .int (1)])) a7 (.tup [.int (4), .int (n)])) a8 (.tup [.int (4), .int (-1)])) a9 (.tup [.int (5), .int (n)])) a10 (.tup [.int (5), .int (-1)])) al (.lst [V.ref a0, V.ref a1, V.ref a2, V.ref a3, V.ref a4, V.ref a5, V.ref a6, V.ref a7, V.ref a8, V.ref a9, V.ref a10])) := (((((((((((same_new (o := (.tup [.int (12), .int (0)])) ha0).trans (same_new (o := (.tup [.int (-1), .int (0)])) ha1)).trans (same_new (o := (.tup [.int (1), .int (12)])) ha2)).trans (same_new (o := (.tup [.int (1), .int (-1)])) ha3)).trans (same_new (o := (.tup [.int (2), .int (12)])) ha4)).trans (same_new (o := (.tup [.int (2), .int (-3)])) ha5)).trans (same_new (o := (.tup [.int (3), .int (1)])) ha6)).trans (same_new (o := (.tup [.int (4), .int (n)])) ha7)).trans (same_new (o := (.tup [.int (4), .int (-1)])) ha8)).trans (same_new (o := (.tup [.int (5), .int (n)])) ha9)).trans (same_new (o := (.tup [.int (5), .int (-1)])) ha10)).trans (same_new (o := .lst [V.ref a0, V.ref a1, V.ref a2, V.ref a3, V.ref a4, V.ref a5, V.ref a6, V.ref a7, V.ref a8, V.ref a9, V.ref a10]) hal)
  have f_a : (upd (upd (upd (upd (upd (upd (upd (upd (upd (upd (upd (upd H a0 (.tup [.int (12), .int (0)])) a1 (.tup [.int (-1), .int (0)])) a2 (.tup [.int (1), .int (12)])) a3 (.tup [.int (1), .int (-1)])) a4 (.tup [.int (2), .int (12)])) a5 (.tup [.int (2), .int (-3)])) a6 (.tup [.int (3), .int (1)])) a7 (.tup [.int (4), .int (n)])) a8 (.tup [.int (4), .int (-1)])) a9 (.tup [.int (5), .int (n)])) a10 (.tup [.int (5), .int (-1)])) al (.lst [V.ref a0, V.ref a1, V.ref a2, V.ref a3, V.ref a4, V.ref a5, V.ref a6, V.ref a7, V.ref a8, V.ref a9, V.ref a10])) al = some (.lst [V.ref a0, V.ref a1, V.ref a2, V.ref a3, V.ref a4, V.ref a5, V.ref a6, V.ref a7, V.ref a8, V.ref a9, V.ref a10]) := upd_same
  clear ha0 ha1 ha2 ha3 ha4 ha5 ha6 ha7 ha8 ha9 ha10 hal
  generalize (upd (upd (upd (upd (upd (upd (upd (upd (upd (upd (upd (upd H a0 (.tup [.int (12), .int (0)])) a1 (.tup [.int (-1), .int (0)])) a2 (.tup [.int (1), .int (12)])) a3 (.tup [.int (1), .int (-1)])) a4 (.tup [.int (2), .int (12)])) a5 (.tup [.int (2), .int (-3)])) a6 (.tup [.int (3), .int (1)])) a7 (.tup [.int (4), .int (n)])) a8 (.tup [.int (4), .int (-1)])) a9 (.tup [.int (5), .int (n)])) a10 (.tup [.int (5), .int (-1)])) al (.lst [V.ref a0, V.ref a1, V.ref a2, V.ref a3, V.ref a4, V.ref a5, V.ref a6, V.ref a7, V.ref a8, V.ref a9, V.ref a10])) = H_a at *
  walk_at "zz"
  intro b0 hb0
  walk_at "zz"
  intro b1 hb1
  walk_at "zz"
  intro b2 hb2
  walk_at "zz"
  intro b3 hb3
  walk_at "zz"
  intro b4 hb4
  walk_at "zz"
  intro b5 hb5
  walk_at "zz"
  intro b6 hb6
  walk_at "zz"
  intro b7 hb7
  walk_at "zz"
  intro b8 hb8
  walk_at "zz"
  intro b9 hb9
  walk_at "zz"
  intro bl hbl
  have N_b : TupsAt (upd (upd (upd (upd (upd (upd (upd (upd (upd (upd (upd H_a b0 (.tup [.int (6), .int (m)])) b1 (.tup [.int (6), .int (-1)])) b2 (.tup [.int (7), .int (1)])) b3 (.tup [.int (8), .int (-1)])) b4 (.tup [.int (9), .int (7)])) b5 (.tup [.int (10), .int (7)])) b6 (.tup [.int (10), .int (20)])) b7 (.tup [.int (10), .int (0)])) b8 (.tup [.int (11), .int (1)])) b9 (.tup [.int (11), .int (13)])) bl (.lst [V.ref b0, V.ref b1, V.ref b2, V.ref b3, V.ref b4, V.ref b5, V.ref b6, V.ref b7, V.ref b8, V.ref b9])) [[6, m], [6, -1], [7, 1], [8, -1], [9, 7], [10, 7], [10, 20], [10, 0], [11, 1], [11, 13]] [V.ref b0, V.ref b1, V.ref b2, V.ref b3, V.ref b4, V.ref b5, V.ref b6, V.ref b7, V.ref b8, V.ref b9] := TupsAt.mono (TupS.new (o := .lst [V.ref b0, V.ref b1, V.ref b2, V.ref b3, V.ref b4, V.ref b5, V.ref b6, V.ref b7, V.ref b8, V.ref b9]) hbl) (show TupsAt (upd (upd (upd (upd (upd (upd (upd (upd (upd (upd H_a b0 (.tup [.int (6), .int (m)])) b1 (.tup [.int (6), .int (-1)])) b2 (.tup [.int (7), .int (1)])) b3 (.tup [.int (8), .int (-1)])) b4 (.tup [.int (9), .int (7)])) b5 (.tup [.int (10), .int (7)])) b6 (.tup [.int (10), .int (20)])) b7 (.tup [.int (10), .int (0)])) b8 (.tup [.int (11), .int (1)])) b9 (.tup [.int (11), .int (13)])) [[6, m], [6, -1], [7, 1], [8, -1], [9, 7], [10, 7], [10, 20], [10, 0], [11, 1], [11, 13]] [V.ref b0, V.ref b1, V.ref b2, V.ref b3, V.ref b4, V.ref b5, V.ref b6, V.ref b7, V.ref b8, V.ref b9] from tup_more (tup_more (tup_more (tup_more (tup_more (tup_more (tup_more (tup_more (tup_more (tup_more ((Row.nil : TupsAt H_a [] [])) hb0 [6, m]) hb1 [6, -1]) hb2 [7, 1]) hb3 [8, -1]) hb4 [9, 7]) hb5 [10, 7]) hb6 [10, 20]) hb7 [10, 0]) hb8 [11, 1]) hb9 [11, 13])
  have S_b : Same H_a (upd (upd (upd (upd (upd (upd (upd (upd (upd (upd (upd H_a b0 (.tup [.int (6), .int (m)])) b1 (.tup [.int (6), .int (-1)])) b2 (.tup [.int (7), .int (1)])) b3 (.tup [.int (8), .int (-1)])) b4 (.tup [.int (9), .int (7)])) b5 (.tup [.int (10), .int (7)])) b6 (.tup [.int (10), .int (20)])) b7 (.tup [.int (10), .int (0)])) b8 (.tup [.int (11), .int (1)])) b9 (.tup [.int (11), .int (13)])) bl (.lst [V.ref b0, V.ref b1, V.ref b2, V.ref b3, V.ref b4, V.ref b5, V.ref b6, V.ref b7, V.ref b8, V.ref b9])) := ((((((((((same_new (o := (.tup [.int (6), .int (m)])) hb0).trans (same_new (o := (.tup [.int (6), .int (-1)])) hb1)).trans (same_new (o := (.tup [.int (7), .int (1)])) hb2)).trans (same_new (o := (.tup [.int (8), .int (-1)])) hb3)).trans (same_new (o := (.tup [.int (9), .int (7)])) hb4)).trans (same_new (o := (.tup [.int (10), .int (7)])) hb5)).trans (same_new (o := (.tup [.int (10), .int (20)])) hb6)).trans (same_new (o := (.tup [.int (10), .int (0)])) hb7)).trans (same_new (o := (.tup [.int (11), .int (1)])) hb8)).trans (same_new (o := (.tup [.int (11), .int (13)])) hb9)).trans (same_new (o := .lst [V.ref b0, V.ref b1, V.ref b2, V.ref b3, V.ref b4, V.ref b5, V.ref b6, V.ref b7, V.ref b8, V.ref b9]) hbl)
  have f_b : (upd (upd (upd (upd (upd (upd (upd (upd (upd (upd (upd H_a b0 (.tup [.int (6), .int (m)])) b1 (.tup [.int (6), .int (-1)])) b2 (.tup [.int (7), .int (1)])) b3 (.tup [.int (8), .int (-1)])) b4 (.tup [.int (9), .int (7)])) b5 (.tup [.int (10), .int (7)])) b6 (.tup [.int (10), .int (20)])) b7 (.tup [.int (10), .int (0)])) b8 (.tup [.int (11), .int (1)])) b9 (.tup [.int (11), .int (13)])) bl (.lst [V.ref b0, V.ref b1, V.ref b2, V.ref b3, V.ref b4, V.ref b5, V.ref b6, V.ref b7, V.ref b8, V.ref b9])) bl = some (.lst [V.ref b0, V.ref b1, V.ref b2, V.ref b3, V.ref b4, V.ref b5, V.ref b6, V.ref b7, V.ref b8, V.ref b9]) := upd_same
  clear hb0 hb1 hb2 hb3 hb4 hb5 hb6 hb7 hb8 hb9 hbl
  generalize (upd (upd (upd (upd (upd (upd (upd (upd (upd (upd (upd H_a b0 (.tup [.int (6), .int (m)])) b1 (.tup [.int (6), .int (-1)])) b2 (.tup [.int (7), .int (1)])) b3 (.tup [.int (8), .int (-1)])) b4 (.tup [.int (9), .int (7)])) b5 (.tup [.int (10), .int (7)])) b6 (.tup [.int (10), .int (20)])) b7 (.tup [.int (10), .int (0)])) b8 (.tup [.int (11), .int (1)])) b9 (.tup [.int (11), .int (13)])) bl (.lst [V.ref b0, V.ref b1, V.ref b2, V.ref b3, V.ref b4, V.ref b5, V.ref b6, V.ref b7, V.ref b8, V.ref b9])) = H_b at *
  refine s_rows S_b f_a N_a f_b N_b (by show 11 + 10 ≤ 100000; omega) fun l1 H1 h1n S1 h1 T1 => ?_
  walk_at "zz"
  intro c0 hc0
  walk_at "zz"
  intro c1 hc1
  walk_at "zz"
  intro c2 hc2
  walk_at "zz"
  intro c3 hc3
  walk_at "zz"
  intro cl hcl
  have N_c : TupsAt (upd (upd (upd (upd (upd H1 c0 (.tup [.int (11), .int (0)])) c1 (.tup [.int (10000000000000000000000000000000000000000), .int (0)])) c2 (.tup [.int (4), .int (10000000000000000000000000000000000000000)])) c3 (.tup [.int (7), .int (-1)])) cl (.lst [V.ref c0, V.ref c1, V.ref c2, V.ref c3])) [[11, 0], [10000000000000000000000000000000000000000, 0], [4, 10000000000000000000000000000000000000000], [7, -1]] [V.ref c0, V.ref c1, V.ref c2, V.ref c3] := TupsAt.mono (TupS.new (o := .lst [V.ref c0, V.ref c1, V.ref c2, V.ref c3]) hcl) (show TupsAt (upd (upd (upd (upd H1 c0 (.tup [.int (11), .int (0)])) c1 (.tup [.int (10000000000000000000000000000000000000000), .int (0)])) c2 (.tup [.int (4), .int (10000000000000000000000000000000000000000)])) c3 (.tup [.int (7), .int (-1)])) [[11, 0], [10000000000000000000000000000000000000000, 0], [4, 10000000000000000000000000000000000000000], [7, -1]] [V.ref c0, V.ref c1, V.ref c2, V.ref c3] from tup_more (tup_more (tup_more (tup_more ((Row.nil : TupsAt H1 [] [])) hc0 [11, 0]) hc1 [10000000000000000000000000000000000000000, 0]) hc2 [4, 10000000000000000000000000000000000000000]) hc3 [7, -1])
  have S_c : Same H1 (upd (upd (upd (upd (upd H1 c0 (.tup [.int (11), .int (0)])) c1 (.tup [.int (10000000000000000000000000000000000000000), .int (0)])) c2 (.tup [.int (4), .int (10000000000000000000000000000000000000000)])) c3 (.tup [.int (7), .int (-1)])) cl (.lst [V.ref c0, V.ref c1, V.ref c2, V.ref c3])) := ((((same_new (o := (.tup [.int (11), .int (0)])) hc0).trans (same_new (o := (.tup [.int (10000000000000000000000000000000000000000), .int (0)])) hc1)).trans (same_new (o := (.tup [.int (4), .int (10000000000000000000000000000000000000000)])) hc2)).trans (same_new (o := (.tup [.int (7), .int (-1)])) hc3)).trans (same_new (o := .lst [V.ref c0, V.ref c1, V.ref c2, V.ref c3]) hcl)
  have f_c : (upd (upd (upd (upd (upd H1 c0 (.tup [.int (11), .int (0)])) c1 (.tup [.int (10000000000000000000000000000000000000000), .int (0)])) c2 (.tup [.int (4), .int (10000000000000000000000000000000000000000)])) c3 (.tup [.int (7), .int (-1)])) cl (.lst [V.ref c0, V.ref c1, V.ref c2, V.ref c3])) cl = some (.lst [V.ref c0, V.ref c1, V.ref c2, V.ref c3]) := upd_same
  clear hc0 hc1 hc2 hc3 hcl
  generalize (upd (upd (upd (upd (upd H1 c0 (.tup [.int (11), .int (0)])) c1 (.tup [.int (10000000000000000000000000000000000000000), .int (0)])) c2 (.tup [.int (4), .int (10000000000000000000000000000000000000000)])) c3 (.tup [.int (7), .int (-1)])) cl (.lst [V.ref c0, V.ref c1, V.ref c2, V.ref c3])) = H_c at *
  refine s_rows S_c h1 T1 f_c N_c (by show 21 + 4 ≤ 100000; omega) fun l2 H2 h2n S2 h2 T2 => ?_
  have S02 := ((S_a.trans S_b).trans S1).trans (S_c.trans S2)
  have bad : ∀ r ∈ (([[12, 0], [-1, 0], [1, 12], [1, -1], [2, 12], [2, -3], [3, 1], [4, (n : Int)], [4, -1], [5, (n : Int)], [5, -1]] : List (List Int)) ++ ([[6, (m : Int)], [6, -1], [7, 1], [8, -1], [9, 7], [10, 7], [10, 20], [10, 0], [11, 1], [11, 13]] : List (List Int)) ++ ([[11, 0], [10000000000000000000000000000000000000000, 0], [4, 10000000000000000000000000000000000000000], [7, -1]] : List (List Int))), ∃ op v : Int, r = [op, v] ∧ ¬ OpOK op v m n := by
    intro r hr
    simp only [List.mem_append, List.mem_cons, List.not_mem_nil, or_false] at hr
    rcases hr with (hr | hr) | hr
    · rcases hr with e | e | e | e | e | e | e | e | e | e | e <;> exact ⟨_, _, e, by unfold OpOK; omega⟩
    · rcases hr with e | e | e | e | e | e | e | e | e | e <;> exact ⟨_, _, e, by unfold OpOK; omega⟩
    · rcases hr with e | e | e | e <;> exact ⟨_, _, e, by unfold OpOK; omega⟩
  have P2 := P.same S02
  have n2 := (P.same ((S_a.trans S_b).trans (S1.trans S_c))).ne h2n
  have ll := T2.len
  have lR : (([[12, 0], [-1, 0], [1, 12], [1, -1], [2, 12], [2, -3], [3, 1], [4, (n : Int)], [4, -1], [5, (n : Int)], [5, -1]] : List (List Int)) ++ ([[6, (m : Int)], [6, -1], [7, 1], [8, -1], [9, 7], [10, 7], [10, 20], [10, 0], [11, 1], [11, 13]] : List (List Int)) ++ ([[11, 0], [10000000000000000000000000000000000000000, 0], [4, 10000000000000000000000000000000000000000], [7, -1]] : List (List Int))).length = 25 := rfl
  generalize (([[12, 0], [-1, 0], [1, 12], [1, -1], [2, 12], [2, -3], [3, 1], [4, (n : Int)], [4, -1], [5, (n : Int)], [5, -1]] : List (List Int)) ++ ([[6, (m : Int)], [6, -1], [7, 1], [8, -1], [9, 7], [10, 7], [10, 20], [10, 0], [11, 1], [11, 13]] : List (List Int)) ++ ([[11, 0], [10000000000000000000000000000000000000000, 0], [4, 10000000000000000000000000000000000000000], [7, -1]] : List (List Int))) = R at *
  generalize [V.ref a0, V.ref a1, V.ref a2, V.ref a3, V.ref a4, V.ref a5, V.ref a6, V.ref a7, V.ref a8, V.ref a9, V.ref a10] ++ [V.ref b0, V.ref b1, V.ref b2, V.ref b3, V.ref b4, V.ref b5, V.ref b6, V.ref b7, V.ref b8, V.ref b9] ++ [V.ref c0, V.ref c1, V.ref c2, V.ref c3] = vs at *
  walk_at "zz"
  refine c_take (by rw [ll]; exact ⟨by rw [lR]; decide, by rw [lR]; decide⟩) P2 fun v H3 v0 v1 P3 B3 => ?_
  have h3 := B3.rd n2 h2
  have T3 := T2.mono (P2.tups B3)
  have hv : v.toNat < R.length := by rw [← ll]; omega
  obtain ⟨op, z, er, no⟩ := bad _ (List.getElem_mem hv)
  obtain ⟨w, ew, t, rfl, ht⟩ := T3.get (List.getElem?_eq_getElem hv)
  rw [er] at ht
  walk_at "zz"
  refine s_ix_l (SqL.of h3) (at_ofN (j := v.toNat) (by omega) ew) ?_
  exact q t op z H3 ((But.of S02).trans B3) P3 ht no

theorem rd_Lbad_head {Z : Adr} (T : Top Z) {a0 a1 a2 a3 : V} {H : Hp} {Q : VK} {E : XK} (h : q_Lbad_head Z a0 a1 a2 a3 H Q E) : t_Lbad_head Z (fun cls d _ H => E cls d H) ⟨fun _ H' => Q .non H', Q, fun _ _ => False, fun _ _ => False⟩ [some a0, some a1, some a2, some a3, none, none, none, none] H := by
  unfold t_Lbad_head
  obtain ⟨p, t, s, pp, bx, i, n, rfl, rfl, rfl, rfl, n1, P, ht, hok, q⟩ := h
  have big : 1000000 ≤ sizeLine := by decide
  obtain ⟨s', p', b', e, s0, s1, p0, p4, pb, b12⟩ := hok
  injection e with e1 e
  injection e with e2 e
  injection e with e3 _
  subst e1 e2 e3
  walk_at "zz"
  intro a0 ha0
  walk_at "zz"
  intro a1 ha1
  walk_at "zz"
  intro a2 ha2
  walk_at "zz"
  intro a3 ha3
  walk_at "zz"
  intro a4 ha4
  walk_at "zz"
  intro al hal
  have N_a : TupsAt (upd (upd (upd (upd (upd (upd H a0 (.tup [.int ((n : Int)), .int (pp), .int (bx)])) a1 (.tup [.int (-1), .int (pp), .int (bx)])) a2 (.tup [.int (s), .int (5), .int (12)])) a3 (.tup [.int (s), .int (-1), .int (bx)])) a4 (.tup [.int (s), .int (pp), .int (pp - 1)])) al (.lst [V.ref a0, V.ref a1, V.ref a2, V.ref a3, V.ref a4])) [[(n : Int), pp, bx], [-1, pp, bx], [s, 5, 12], [s, -1, bx], [s, pp, pp - 1]] [V.ref a0, V.ref a1, V.ref a2, V.ref a3, V.ref a4] := TupsAt.mono (TupS.new (o := .lst [V.ref a0, V.ref a1, V.ref a2, V.ref a3, V.ref a4]) hal) (show TupsAt (upd (upd (upd (upd (upd H a0 (.tup [.int ((n : Int)), .int (pp), .int (bx)])) a1 (.tup [.int (-1), .int (pp), .int (bx)])) a2 (.tup [.int (s), .int (5), .int (12)])) a3 (.tup [.int (s), .int (-1), .int (bx)])) a4 (.tup [.int (s), .int (pp), .int (pp - 1)])) [[(n : Int), pp, bx], [-1, pp, bx], [s, 5, 12], [s, -1, bx], [s, pp, pp - 1]] [V.ref a0, V.ref a1, V.ref a2, V.ref a3, V.ref a4] from tup_more (tup_more (tup_more (tup_more (tup_more ((Row.nil : TupsAt H [] [])) ha0 [(n : Int), pp, bx]) ha1 [-1, pp, bx]) ha2 [s, 5, 12]) ha3 [s, -1, bx]) ha4 [s, pp, pp - 1])
  have S_a : Same H (upd (upd (upd (upd (upd (upd H a0 (.tup [.int ((n : Int)), .int (pp), .int (bx)])) a1 (.tup [.int (-1), .int (pp), .int (bx)])) a2 (.tup [.int (s), .int (5), .int (12)])) a3 (.tup [.int (s), .int (-1), .int (bx)])) a4 (.tup [.int (s), .int (pp), .int (pp - 1)])) al (.lst [V.ref a0, V.ref a1, V.ref a2, V.ref a3, V.ref a4])) := (((((same_new (o := (.tup [.int ((n : Int)), .int (pp), .int (bx)])) ha0).trans (same_new (o := (.tup [.int (-1), .int (pp), .int (bx)])) ha1)).trans (same_new (o := (.tup [.int (s), .int (5), .int (12)])) ha2)).trans (same_new (o := (.tup [.int (s), .int (-1), .int (bx)])) ha3)).trans (same_new (o := (.tup [.int (s), .int (pp), .int (pp - 1)])) ha4)).trans (same_new (o := .lst [V.ref a0, V.ref a1, V.ref a2, V.ref a3, V.ref a4]) hal)
  have f_a : (upd (upd (upd (upd (upd (upd H a0 (.tup [.int ((n : Int)), .int (pp), .int (bx)])) a1 (.tup [.int (-1), .int (pp), .int (bx)])) a2 (.tup [.int (s), .int (5), .int (12)])) a3 (.tup [.int (s), .int (-1), .int (bx)])) a4 (.tup [.int (s), .int (pp), .int (pp - 1)])) al (.lst [V.ref a0, V.ref a1, V.ref a2, V.ref a3, V.ref a4])) al = some (.lst [V.ref a0, V.ref a1, V.ref a2, V.ref a3, V.ref a4]) := upd_same
  clear ha0 ha1 ha2 ha3 ha4 hal
  generalize (upd (upd (upd (upd (upd (upd H a0 (.tup [.int ((n : Int)), .int (pp), .int (bx)])) a1 (.tup [.int (-1), .int (pp), .int (bx)])) a2 (.tup [.int (s), .int (5), .int (12)])) a3 (.tup [.int (s), .int (-1), .int (bx)])) a4 (.tup [.int (s), .int (pp), .int (pp - 1)])) al (.lst [V.ref a0, V.ref a1, V.ref a2, V.ref a3, V.ref a4])) = H_a at *
  walk_at "zz"
  intro b0 hb0
  walk_at "zz"
  intro b1 hb1
  walk_at "zz"
  intro b2 hb2
  walk_at "zz"
  intro bl hbl
  have S1 := (((same_new (o := .tup [.int s, .int pp, .int 13]) hb0).trans (same_new (o := .tup [.int s, .int 1, .int 3]) hb1)).trans (same_new (o := .tup [.int s, .int 4, .int 3]) hb2)).trans (same_new (o := .lst [.ref b1, .ref b2]) hbl)
  have fb0 := (((same_new (o := .tup [.int s, .int 1, .int 3]) hb1).trans (same_new (o := .tup [.int s, .int 4, .int 3]) hb2)).trans (same_new (o := .lst [.ref b1, .ref b2]) hbl)) _ _ (upd_same (H := H_a) (a := b0) (o := .tup [.int s, .int pp, .int 13]))
  have fb1 := ((same_new (o := .tup [.int s, .int 4, .int 3]) hb2).trans (same_new (o := .lst [.ref b1, .ref b2]) hbl)) _ _ (upd_same (H := upd H_a b0 (.tup [.int s, .int pp, .int 13])) (a := b1) (o := .tup [.int s, .int 1, .int 3]))
  have fb2 := (same_new (o := .lst [.ref b1, .ref b2]) hbl) _ _ (upd_same (H := upd (upd H_a b0 (.tup [.int s, .int pp, .int 13])) b1 (.tup [.int s, .int 1, .int 3])) (a := b2) (o := .tup [.int s, .int 4, .int 3]))
  have fbl : upd (upd (upd (upd H_a b0 (.tup [.int s, .int pp, .int 13])) b1 (.tup [.int s, .int 1, .int 3])) b2 (.tup [.int s, .int 4, .int 3])) bl (.lst [.ref b1, .ref b2]) bl = some (.lst [.ref b1, .ref b2]) := upd_same
  generalize upd (upd (upd (upd H_a b0 (.tup [.int s, .int pp, .int 13])) b1 (.tup [.int s, .int 1, .int 3])) b2 (.tup [.int s, .int 4, .int 3])) bl (.lst [.ref b1, .ref b2]) = H1 at *
  walk_at "zz"
  obtain ⟨d, a, ed, hd, da⟩ : ∃ (d : Addr) (a : Int), ([V.ref b1, .ref b2])[(if decide (0 < (i : Int)) = true then 1 else 0 : Nat)]? = some (.ref d) ∧ H1 d = some (.tup [.int s, .int a, .int 3]) ∧ ((0 < i → a = 4) ∧ (¬ 0 < i → a = 1)) := by
    by_cases c : 0 < i
    · exact ⟨b2, 4, by rw [if_pos (by rw [decide_eq_true_eq]; omega)]; rfl, fb2, fun _ => rfl, fun z => absurd c z⟩
    · exact ⟨b1, 1, by rw [if_neg (by rw [decide_eq_true_eq]; omega)]; rfl, fb1, fun z => absurd z c, fun _ => rfl⟩
  rw [show (if decide (0 < (i : Int)) = true then (1 : Int) else 0) = ((if decide (0 < (i : Int)) = true then 1 else 0 : Nat) : Int) by split <;> rfl]
  refine s_ixN (SqL.of fbl) ed ?_
  walk_at "zz"
  intro c0 hc0
  walk_at "zz"
  intro cl hcl
  have S2 := (same_new (o := .tup [.int 10000000000000000000000000000000000000000, .int pp, .int bx]) hc0).trans (same_new (o := .lst [.ref b0, .ref d, .ref c0]) hcl)
  have N2 : TupsAt (upd (upd H1 c0 (.tup [.int 10000000000000000000000000000000000000000, .int pp, .int bx])) cl (.lst [.ref b0, .ref d, .ref c0])) [[s, pp, 13], [s, a, 3], [10000000000000000000000000000000000000000, pp, bx]] [.ref b0, .ref d, .ref c0] :=
    Row.cons ⟨b0, rfl, S2 _ _ fb0⟩ (Row.cons ⟨d, rfl, S2 _ _ hd⟩ (Row.one ⟨c0, rfl, (same_new (o := .lst [.ref b0, .ref d, .ref c0]) hcl) _ _ upd_same⟩))
  refine s_rows ((S1.trans S2)) f_a N_a upd_same N2 (by show 5 + 3 ≤ 100000; omega) fun l2 H2 h2n S3 h2 T2 => ?_
  have S02 := (S_a.trans (S1.trans S2)).trans S3
  have e40 : (1000 : Int) < 10000000000000000000000000000000000000000 := by decide
  have bad : ∀ r ∈ (([[(n : Int), pp, bx], [-1, pp, bx], [s, 5, 12], [s, -1, bx], [s, pp, pp - 1]] : List (List Int)) ++ [[s, pp, 13], [s, a, 3], [10000000000000000000000000000000000000000, pp, bx]]), ∃ s' p' b' : Int, r = [s', p', b'] ∧ ¬ HeadOK [s', p', b'] i n := by
    intro r hr
    have no : ∀ x y z : Int, (¬ (0 ≤ x ∧ x < n ∧ 0 ≤ y ∧ y ≤ (if 0 < i then 4 else 0) ∧ y ≤ z ∧ z ≤ 12)) → ¬ HeadOK [x, y, z] i n := fun x y z k => by
      rintro ⟨s', p', b', e, a1, a2, a3, a4, a5, a6⟩
      injection e with e1 e
      injection e with e2 e
      injection e with e3 _
      subst e1 e2 e3
      exact k ⟨a1, a2, a3, a4, a5, a6⟩
    have le4 : (if 0 < i then (4 : Int) else 0) ≤ 4 := by split <;> omega
    simp only [List.mem_append, List.mem_cons, List.not_mem_nil, or_false] at hr
    rcases hr with (e | e | e | e | e) | e | e | e
    · exact ⟨_, _, _, e, no _ _ _ (by omega)⟩
    · exact ⟨_, _, _, e, no _ _ _ (by omega)⟩
    · exact ⟨_, _, _, e, no _ _ _ (by omega)⟩
    · exact ⟨_, _, _, e, no _ _ _ (by omega)⟩
    · exact ⟨_, _, _, e, no _ _ _ (by omega)⟩
    · exact ⟨_, _, _, e, no _ _ _ (by omega)⟩
    · refine ⟨_, _, _, e, no _ _ _ ?_⟩
      by_cases c : 0 < i
      · rw [da.1 c]; omega
      · rw [da.2 c, if_neg c]; omega
    · exact ⟨_, _, _, e, no _ _ _ (by omega)⟩
  have P2 := P.same S02
  have n2 := (P.same (S_a.trans (S1.trans S2))).ne h2n
  have ll := T2.len
  have lR : (([[(n : Int), pp, bx], [-1, pp, bx], [s, 5, 12], [s, -1, bx], [s, pp, pp - 1]] : List (List Int)) ++ [[s, pp, 13], [s, a, 3], [10000000000000000000000000000000000000000, pp, bx]]).length = 8 := rfl
  generalize (([[(n : Int), pp, bx], [-1, pp, bx], [s, 5, 12], [s, -1, bx], [s, pp, pp - 1]] : List (List Int)) ++ [[s, pp, 13], [s, a, 3], [10000000000000000000000000000000000000000, pp, bx]]) = R at *
  generalize [V.ref a0, V.ref a1, V.ref a2, V.ref a3, V.ref a4] ++ [.ref b0, .ref d, .ref c0] = vs at *
  walk_at "zz"
  refine c_take (by rw [ll]; exact ⟨by rw [lR]; decide, by rw [lR]; decide⟩) P2 fun v H3 v0 v1 P3 B3 => ?_
  have h3 := B3.rd n2 h2
  have T3 := T2.mono (P2.tups B3)
  have hv : v.toNat < R.length := by rw [← ll]; omega
  obtain ⟨s', p', b', er, no⟩ := bad _ (List.getElem_mem hv)
  obtain ⟨w, ew, t', rfl, ht'⟩ := T3.get (List.getElem?_eq_getElem hv)
  rw [er] at ht'
  walk_at "zz"
  refine s_ix_l (SqL.of h3) (at_ofN (j := v.toNat) (by omega) ew) ?_
  exact q t' s' p' b' H3 ((But.of S02).trans B3) P3 ht' no

theorem rd_Lflat {Z : Adr} (T : Top Z) {a0 a1 : V} {H : Hp} {Q : VK} {E : XK} (h : q_Lflat Z a0 a1 H Q E) : t_Lflat Z (fun cls d _ H => E cls d H) ⟨fun _ H' => Q .non H', Q, fun _ _ => False, fun _ _ => False⟩ [some a0, some a1, none, none] H := by
  unfold t_Lflat
  obtain ⟨la, lb, va, vb, hs, rs, rfl, rfl, ha, hb, th, tr, h3, r2, l1, l2, q⟩ := h
  have big : 1000000 ≤ sizeLine := by decide
  have lena := th.len
  have lenb := tr.len
  walk_at "zz"
  intro l hl
  have S1 := same_new (o := .lst [.int (va.length : Int)]) hl
  walk_at "zz"
  refine s_add_l (S1 _ _ ha) (S1 _ _ hb) (by rw [lena, lenb]; omega) fun l2 hl2 => ?_
  have S2 := S1.trans (same_new (o := .lst (va ++ vb)) hl2)
  have T2 : TupsAt (upd (upd H l (.lst [.int (va.length : Int)])) l2 (.lst (va ++ vb))) (hs ++ rs) (va ++ vb) := (th.mono (TupS.of S2)).append (tr.mono (TupS.of S2))
  have f2 : upd (upd H l (.lst [.int (va.length : Int)])) l2 (.lst (va ++ vb)) l2 = some (.lst (va ++ vb)) := upd_same
  have f1 := up_new (u := .lst (va ++ vb)) hl2 (upd_same (H := H) (a := l) (o := .lst [.int (va.length : Int)]))
  generalize upd (upd H l (.lst [.int (va.length : Int)])) l2 (.lst (va ++ vb)) = H2 at *
  have l3 : ∀ x ∈ hs ++ rs, x.length ≤ 3 := fun x hx => by
    rcases List.mem_append.mp hx with z | z
    · rw [h3 x z]; omega
    · rw [r2 x z]; omega
  have fl : ∀ (xs : List (List Int)), (∀ x ∈ xs, x.length ≤ 3) → xs.flatten.length ≤ 3 * xs.length := by
    intro xs
    induction xs with
    | nil => intro _; exact Nat.le_refl _
    | cons x xs ih =>
      intro h
      have := ih fun y hy => h y (List.mem_cons_of_mem _ hy)
      have := h x List.mem_cons_self
      rw [List.flatten_cons, List.length_append, List.length_cons]; omega
  have lt : (hs ++ rs).length ≤ 200 := by rw [List.length_append]; omega
  walk_at "zz"
  refine loop_list (va ++ vb) (fun i σ' H' => ∃ (l' : Addr) (x3 : Option V), Same H2 H' ∧ H l' = none ∧ H' l' = some (.lst (((va.length : Int) :: ((hs ++ rs).take i).flatten).map V.int)) ∧ σ' = [some (.ref la), some (.ref lb), some (.ref l'), x3])
    ⟨l, none, Same.refl _, hl, f1, rfl⟩ (fun i σ' H' hi ⟨l', x3, S, _⟩ => SqL.of (S _ _ f2)) ?_ ?_
  · rintro i v σ' H3 hv ⟨l', x3, S3, l0, hl3, rfl⟩
    obtain ⟨x, hx, t, rfl, ht⟩ := T2.getv hv
    have ht3 := S3 _ _ ht
    have hi := List.getElem?_eq_some_iff.mp hx
    have hx3 := l3 x (List.mem_of_getElem? hx)
    walk_at "zz"
    intro l4 hl4
    have bound := fl ((hs ++ rs).take i) fun y hy => l3 y (List.mem_of_mem_take hy)
    rw [List.length_take] at bound
    refine s_add_l (up_new hl4 hl3) upd_same (by simp only [List.length_map, List.length_cons]; omega) fun l5 hl5 => ?_
    have Sx := (same_new (o := .lst (x.map V.int)) hl4).trans (same_new (o := .lst ((((va.length : Int) :: ((hs ++ rs).take i).flatten).map V.int) ++ x.map V.int)) hl5)
    refine ⟨l5, _, S3.trans Sx, (S2.trans S3).free ((same_new hl4).free hl5), ?_, rfl⟩
    rw [upd_same, List.take_succ_eq_append_getElem hi.1, hi.2, List.flatten_append]
    simp
  · rintro σ' H3 ⟨l', x3, S3, l0, hl3, rfl⟩
    rw [show (va ++ vb).length = (hs ++ rs).length from T2.len, List.take_length, List.flatten_append, lena] at hl3
    walk_at "zz"
    exact q l' H3 (S2.trans S3) l0 hl3

theorem rd_Lbent {Z : Adr} (T : Top Z) {a0 a1 a2 : V} {H : Hp} {Q : VK} {E : XK} (h : q_Lbent Z a0 a1 a2 H Q E) : t_Lbent Z (fun cls d _ H => E cls d H) ⟨fun _ H' => Q .non H', Q, fun _ _ => False, fun _ _ => False⟩ [some a0, some a1, some a2, none, none, none, none, none, none] H := by
  unfold t_Lbent
  obtain ⟨p, lh, lr, vh, vr, hs, rs, rfl, rfl, rfl, P, nh, nr, hlh, hlr, th, tr, C, r24, q⟩ := h
  have big : 1000000 ≤ sizeLine := by decide
  have lenh := th.len
  have lenr := tr.len
  have h16 := C.h16
  have h1 := C.h1
  have r1 := C.r1
  walk_at "zz"
  rw [lenr]
  refine c_take (by omega) P fun v1 H1 v10 v11 P1 B1 => ?_
  have hlh1 := B1.rd nh hlh
  have hlr1 := B1.rd nr hlr
  have th1 := th.mono (P.tups B1)
  have tr1 := tr.mono (P.tups B1)
  walk_at "zz"
  rw [lenh]
  refine c_take (by omega) P1 fun v2 H2 v20 v21 P2 B2 => ?_
  have hlh2 := B2.rd nh hlh1
  have hlr2 := B2.rd nr hlr1
  have th2 := th1.mono (P1.tups B2)
  have tr2 := tr1.mono (P1.tups B2)
  walk_at "zz"
  refine c_take (by omega) P2 fun v3 H3 v30 v31 P3 B3 => ?_
  have hlh3 := B3.rd nh hlh2
  have hlr3 := B3.rd nr hlr2
  have th3 := th2.mono (P2.tups B3)
  have tr3 := tr2.mono (P2.tups B3)
  have B03 := (B1.trans B2).trans B3
  clear hlh1 hlr1 th1 tr1 hlh2 hlr2 th2 tr2 B1 B2 B3 P1 P2
  obtain ⟨a, rfl⟩ : ∃ a : Nat, v1 = (a : Int) := ⟨v1.toNat, by omega⟩
  obtain ⟨b, rfl⟩ : ∃ b : Nat, v2 = (b : Int) := ⟨v2.toNat, by omega⟩
  walk_at "zz"
  refine s_ifd (fun c => ?_) (fun c => ?_)
  · walk_at "zz"
    intro l4 hl4
    rw [cut_takeV] at *
    have S4 := same_new (o := .lst (vr.take a)) hl4
    have n4 := P3.ne hl4
    have tr4 : TupsAt (upd H3 l4 (.lst (vr.take a))) (rs.take a) (vr.take a) := Row.take a (tr3.mono (TupS.of S4))
    have P4 := P3.same S4
    have h4 : upd H3 l4 (.lst (vr.take a)) l4 = some (.lst (vr.take a)) := upd_same
    have hlh4 := S4 _ _ hlh3
    have hlr4 := S4 _ _ hlr3
    have th4 := th3.mono (TupS.of S4)
    have trr4 := tr3.mono (TupS.of S4)
    have B4 := B03.trans (But.of S4)
    clear hlh3 hlr3 th3 tr3 B03 P3 S4 hl4
    generalize upd H3 l4 (.lst (vr.take a)) = H4 at *
    walk_at "zz"
    rw [lenr, lenh]
    refine cl_Lbad_row ⟨p, rs.length, hs.length, rfl, rfl, rfl, by omega, by omega, P4, fun t op v H5 B5 P5 ht no => ?_⟩
    have T45 := P4.tups B5
    have tr5 := tr4.mono T45
    have h5 := B5.rd n4 h4
    have hlh5 := B5.rd nh hlh4
    have hlr5 := B5.rd nr hlr4
    have th5 := th4.mono T45
    have trr5 := trr4.mono T45
    have B45 := B4.trans B5
    clear tr4 h4 hlh4 hlr4 th4 trr4 B4 B5 T45 P4
    walk_at "zz"
    intro lx hlx
    walk_at "zz"
    have Sx := same_new (o := .lst [.ref t]) hlx
    have N : TupsAt (upd H5 lx (.lst [.ref t])) [[op, v]] [.ref t] := Row.one ⟨t, rfl, Sx _ _ ht⟩
    have ltk : (rs.take a).length ≤ 24 := by rw [List.length_take]; omega
    refine s_rows Sx h5 tr5 upd_same N (by show _ + 1 ≤ _; omega) fun l6 H6 h60 S6 h6 T6 => ?_
    have S56 := Sx.trans S6
    walk_at "zz"
    rw [show (a : Int) + 1 = ((a + 1 : Nat) : Int) by omega]
    have hlr6 := S56 _ _ hlr5
    walk_at "zz"
    intro l7 hl7
    rw [cut_dropV]
    have S7 := same_new (o := .lst (vr.drop (a + 1))) hl7
    have N7 : TupsAt (upd H6 l7 (.lst (vr.drop (a + 1)))) (rs.drop (a + 1)) (vr.drop (a + 1)) := Row.drop (a + 1) (trr5.mono (TupS.of (S56.trans S7)))
    refine s_rows S7 h6 T6 upd_same N7 (by rw [List.length_append, List.length_drop]; show _ + 1 + _ ≤ _; omega) fun l8 H8 h80 S8 h8 T8 => ?_
    have S58 := S56.trans (S7.trans S8)
    walk_at "zz"
    intro t9 ht9
    have S9 := same_new (o := .tup [.ref lh, .ref l8]) ht9
    have Sz := S58.trans S9
    refine q t9 lh l8 _ _ hs _ _ (B45.trans (But.of Sz)) (P5.same Sz) upd_same (Sz _ _ hlh5) (S9 _ _ h8) (th5.mono (TupS.of Sz)) (T8.mono (TupS.of S9)) C.h3 (all_len C.r2 rfl) (by omega) ?_ (bent_row (by omega) no) nh (P5.same (S56.trans S7) |>.ne h80)
    rw [List.length_append, List.length_append, List.length_take, List.length_drop]; show _ + 1 + _ ≤ _; omega
  walk_at "zz"
  refine s_ifd (fun c2 => ?_) (fun c2 => ?_)
  · walk_at "zz"
    intro l4 hl4
    rw [cut_takeV] at *
    have S4 := same_new (o := .lst (vh.take b)) hl4
    have n4 := P3.ne hl4
    have tr4 : TupsAt (upd H3 l4 (.lst (vh.take b))) (hs.take b) (vh.take b) := Row.take b (th3.mono (TupS.of S4))
    have P4 := P3.same S4
    have h4 : upd H3 l4 (.lst (vh.take b)) l4 = some (.lst (vh.take b)) := upd_same
    have hlh4 := S4 _ _ hlh3
    have hlr4 := S4 _ _ hlr3
    have th4 := th3.mono (TupS.of S4)
    have trr4 := tr3.mono (TupS.of S4)
    have B4 := B03.trans (But.of S4)
    clear hlh3 hlr3 th3 tr3 B03 P3 S4 hl4
    generalize upd H3 l4 (.lst (vh.take b)) = H4 at *
    have hb : b < hs.length := by omega
    obtain ⟨s, pp, bx, e1, e2, e3⟩ : ∃ s pp bx : Int, hs[b] = [s, pp, bx] ∧ hs[b]? = some [s, pp, bx] ∧ HeadOK [s, pp, bx] b rs.length := by
      obtain ⟨s, p', b', e, z⟩ := C.hd b _ (List.getElem?_eq_getElem hb)
      exact ⟨s, p', b', e, by rw [List.getElem?_eq_getElem hb, e], s, p', b', rfl, z⟩
    obtain ⟨w, ew, tb, rfl, htb⟩ := th4.get e2
    walk_at "zz"
    refine s_ixN (SqL.of hlh4) ew ?_
    walk_at "zz"
    rw [lenr]
    refine cl_Lbad_head ⟨p, tb, s, pp, bx, b, rs.length, rfl, rfl, rfl, rfl, by omega, P4, htb, e3, fun t s' p' b' H5 B5 P5 ht no => ?_⟩
    have T45 := P4.tups B5
    have tr5 := tr4.mono T45
    have h5 := B5.rd n4 h4
    have hlh5 := B5.rd nh hlh4
    have hlr5 := B5.rd nr hlr4
    have th5 := th4.mono T45
    have trr5 := trr4.mono T45
    have B45 := B4.trans B5
    clear tr4 h4 hlh4 hlr4 th4 trr4 B4 B5 T45 P4
    walk_at "zz"
    intro lx hlx
    walk_at "zz"
    have Sx := same_new (o := .lst [.ref t]) hlx
    have N : TupsAt (upd H5 lx (.lst [.ref t])) [[s', p', b']] [.ref t] := Row.one ⟨t, rfl, Sx _ _ ht⟩
    have ltk : (hs.take b).length ≤ 24 := by rw [List.length_take]; omega
    refine s_rows Sx h5 tr5 upd_same N (by show _ + 1 ≤ _; omega) fun l6 H6 h60 S6 h6 T6 => ?_
    have S56 := Sx.trans S6
    walk_at "zz"
    rw [show (b : Int) + 1 = ((b + 1 : Nat) : Int) by omega]
    have hlh6 := S56 _ _ hlh5
    walk_at "zz"
    intro l7 hl7
    rw [cut_dropV]
    have S7 := same_new (o := .lst (vh.drop (b + 1))) hl7
    have N7 : TupsAt (upd H6 l7 (.lst (vh.drop (b + 1)))) (hs.drop (b + 1)) (vh.drop (b + 1)) := Row.drop (b + 1) (th5.mono (TupS.of (S56.trans S7)))
    refine s_rows S7 h6 T6 upd_same N7 (by rw [List.length_append, List.length_drop]; show _ + 1 + _ ≤ _; omega) fun l8 H8 h80 S8 h8 T8 => ?_
    have S58 := S56.trans (S7.trans S8)
    walk_at "zz"
    intro t9 ht9
    have S9 := same_new (o := .tup [.ref l8, .ref lr]) ht9
    have Sz := S58.trans S9
    refine q t9 l8 lr _ _ _ rs _ (B45.trans (But.of Sz)) (P5.same Sz) upd_same (S9 _ _ h8) (Sz _ _ hlr5) (T8.mono (TupS.of S9)) (trr5.mono (TupS.of Sz)) (all_len C.h3 rfl) C.r2 ?_ (by omega) (bent_head hb no) (P5.same (S56.trans S7) |>.ne h80) nr
    rw [List.length_append, List.length_append, List.length_take, List.length_drop]; show _ + 1 + _ ≤ _; omega
  walk_at "zz"
  refine lc_rng (fun D j H' => Same H3 H' ∧ ∃ ws, H' D = some (.lst ws) ∧ TupsAt H' (List.replicate j [0, 0, 0]) ws) (fun D hD => ⟨same_new hD, [], upd_same, Row.nil⟩) ?_ ?_
  · rintro D j H4 hD hj ⟨S4, ws, h4, T4⟩
    walk_at "zz"
    intro t ht
    have h4' := up_new (u := .tup [.int 0, .int 0, .int 0]) ht h4
    refine c_acc h4' (by rw [T4.len, List.length_replicate]; omega) fun H5 B5 h5 => ⟨same_own (S4.trans (same_new ht)) B5 hD, _, h5, ?_⟩
    rw [List.replicate_succ']
    exact TupsAt.mono (TupS.butL B5 h4') (tup_more T4 ht [0, 0, 0])
  rintro lm H4 hlm ⟨S4, ws, h4, T4⟩
  have P4 := P3.same S4
  have nm := P3.ne hlm
  have hlh4 := S4 _ _ hlh3
  have hlr4 := S4 _ _ hlr3
  have th4 := th3.mono (TupS.of S4)
  have tr4 := tr3.mono (TupS.of S4)
  have B4 := B03.trans (But.of S4)
  clear hlh3 hlr3 th3 tr3 B03 P3 S4 hlm
  walk_at "zz"
  intro e1 he1
  walk_at "zz"
  intro t1 ht1
  walk_at "zz"
  intro e2 he2
  walk_at "zz"
  intro t2 ht2
  walk_at "zz"
  intro t3 ht3
  walk_at "zz"
  intro l5 hl5
  have S5 := (((((same_new (o := .lst []) he1).trans (same_new (o := .tup [.ref e1, .ref lr]) ht1)).trans (same_new (o := .lst []) he2)).trans (same_new (o := .tup [.ref lh, .ref e2]) ht2)).trans (same_new (o := .tup [.ref lm, .ref lr]) ht3)).trans (same_new (o := .lst [.ref t1, .ref t2, .ref t3]) hl5)
  have f1 := (((((same_new (o := .tup [.ref e1, .ref lr]) ht1).trans (same_new (o := .lst []) he2)).trans (same_new (o := .tup [.ref lh, .ref e2]) ht2)).trans (same_new (o := .tup [.ref lm, .ref lr]) ht3)).trans (same_new (o := .lst [.ref t1, .ref t2, .ref t3]) hl5)) _ _ (upd_same (H := H4) (a := e1) (o := .lst []))
  have f2 := ((((same_new (o := .lst []) he2).trans (same_new (o := .tup [.ref lh, .ref e2]) ht2)).trans (same_new (o := .tup [.ref lm, .ref lr]) ht3)).trans (same_new (o := .lst [.ref t1, .ref t2, .ref t3]) hl5)) _ _ (upd_same (a := t1) (o := .tup [.ref e1, .ref lr]))
  have f3 := (((same_new (o := .tup [.ref lh, .ref e2]) ht2).trans (same_new (o := .tup [.ref lm, .ref lr]) ht3)).trans (same_new (o := .lst [.ref t1, .ref t2, .ref t3]) hl5)) _ _ (upd_same (a := e2) (o := .lst []))
  have f4 := ((same_new (o := .tup [.ref lm, .ref lr]) ht3).trans (same_new (o := .lst [.ref t1, .ref t2, .ref t3]) hl5)) _ _ (upd_same (a := t2) (o := .tup [.ref lh, .ref e2]))
  have f5 := (same_new (o := .lst [.ref t1, .ref t2, .ref t3]) hl5) _ _ (upd_same (a := t3) (o := .tup [.ref lm, .ref lr]))
  have f6 : upd (upd (upd (upd (upd (upd H4 e1 (.lst [])) t1 (.tup [.ref e1, .ref lr])) e2 (.lst [])) t2 (.tup [.ref lh, .ref e2])) t3 (.tup [.ref lm, .ref lr])) l5 (.lst [.ref t1, .ref t2, .ref t3]) l5 = some (.lst [.ref t1, .ref t2, .ref t3]) := upd_same
  have n1 := P4.ne he1
  have n2 := (P4.same ((same_new (o := .lst []) he1).trans (same_new (o := .tup [.ref e1, .ref lr]) ht1))).ne he2
  have P5 := P4.same S5
  have n5 := (P4.same (((((same_new (o := .lst []) he1).trans (same_new (o := .tup [.ref e1, .ref lr]) ht1)).trans (same_new (o := .lst []) he2)).trans (same_new (o := .tup [.ref lh, .ref e2]) ht2)).trans (same_new (o := .tup [.ref lm, .ref lr]) ht3))).ne hl5
  clear he1 ht1 he2 ht2 ht3 hl5
  generalize upd (upd (upd (upd (upd (upd H4 e1 (.lst [])) t1 (.tup [.ref e1, .ref lr])) e2 (.lst [])) t2 (.tup [.ref lh, .ref e2])) t3 (.tup [.ref lm, .ref lr])) l5 (.lst [.ref t1, .ref t2, .ref t3]) = H5 at *
  walk_at "zz"
  refine c_take (by omega) P5 fun w H6 w0 w1 P6 B6 => ?_
  have T56 := P5.tups B6
  have B46 := B4.trans ((But.of S5).trans B6)
  have hlh6 := B6.rd nh (S5 _ _ hlh4)
  have hlr6 := B6.rd nr (S5 _ _ hlr4)
  have hm6 := B6.rd nm (S5 _ _ h4)
  have th6 := (th4.mono (TupS.of S5)).mono T56
  have tr6 := (tr4.mono (TupS.of S5)).mono T56
  have tm6 := (T4.mono (TupS.of S5)).mono T56
  have f1 := B6.rd n1 f1
  have f2 := T56 _ _ f2
  have f3 := B6.rd n2 f3
  have f4 := T56 _ _ f4
  have f5 := T56 _ _ f5
  have f6 := B6.rd n5 f6
  walk_at "zz"
  have : w = 0 ∨ w = 1 ∨ w = 2 := by omega
  rcases this with z | z | z
  · subst z
    refine s_ixN (m := 0) (SqL.of f6) rfl ?_
    exact q t1 e1 lr [] vr [] rs H6 B46 P6 f2 f1 hlr6 Row.nil tr6 (by simp) C.r2 (by decide) (by omega) (fun C' => absurd C'.h1 (by simp)) n1 nr
  · subst z
    refine s_ixN (m := 1) (SqL.of f6) rfl ?_
    exact q t2 lh e2 vh [] hs [] H6 B46 P6 f4 hlh6 f3 th6 Row.nil C.h3 (by simp) (by omega) (by decide) (fun C' => absurd C'.r1 (by simp)) nh n2
  · subst z
    refine s_ixN (m := 2) (SqL.of f6) rfl ?_
    exact q t3 lm lr ws vr _ rs H6 B46 P6 f5 hm6 hlr6 tm6 tr6 (fun h hh => by rw [List.eq_of_mem_replicate hh]; rfl) C.r2 (by rw [List.length_replicate]; decide) (by omega) (fun C' => by have := C'.h16; rw [List.length_replicate] at this; exact absurd this (by decide)) nm nr

theorem rd_Lodd {Z : Adr} (T : Top Z) {a0 a1 : V} {H : Hp} {Q : VK} {E : XK} (h : q_Lodd Z a0 a1 H Q E) : t_Lodd Z (fun cls d _ H => E cls d H) ⟨fun _ H' => Q .non H', Q, fun _ _ => False, fun _ _ => False⟩ [some a0, some a1, none, none, none, none] H := by
  unfold t_Lodd
  obtain ⟨p, l, hs, rs, rfl, rfl, P, nlp, C, r24, hl, q⟩ := h
  have big : 1000000 ≤ sizeLine := by decide
  have h16 := C.h16
  have h1 := C.h1
  have r1 := C.r1
  have lenx := codeL_len C
  have x0 : (codeL hs rs)[0]? = some (hs.length : Int) := rfl
  generalize hm : hs.length = m at *
  generalize codeL hs rs = xs at *
  walk_at "zz"
  rw [List.length_map]
  refine c_take (by omega) P fun v H1 v0 v1 P1 B1 => ?_
  have hl1 := B1.rd nlp hl
  obtain ⟨k, hk, k1, kl⟩ : ∃ k : Nat, 1 + v = (k : Int) ∧ 1 ≤ k ∧ k < xs.length := ⟨(1 + v).toNat, by omega, by omega, by omega⟩
  walk_at "zz"
  rw [hk]
  walk_at "zz"
  intro lo hlo
  rw [cut_takeI] at *
  walk_at "zz"
  have hl2 := up_new (u := .lst ((xs.take k).map V.int)) hlo hl1
  rw [show (k : Int) + 1 = ((k + 1 : Nat) : Int) by omega]
  walk_at "zz"
  intro up hup
  rw [cut_dropI]
  have S2 := (same_new (o := .lst ((xs.take k).map V.int)) hlo).trans (same_new (o := .lst ((xs.drop (k + 1)).map V.int)) hup)
  have O : OddS Z.K p H1 (upd (upd H1 lo (.lst ((xs.take k).map V.int))) up (.lst ((xs.drop (k + 1)).map V.int))) l lo up xs (xs.take k) (xs.drop (k + 1)) [] := ⟨S2, P1.same S2, S2 _ _ hl1, up_new hup upd_same, upd_same, by simp⟩
  clear S2 hl2 hl1 hlo hup
  generalize upd (upd H1 lo (.lst ((xs.take k).map V.int))) up (.lst ((xs.drop (k + 1)).map V.int)) = H2 at *
  generalize ea : xs.take k = a at *
  generalize eb : xs.drop (k + 1) = b at *
  have lab : a.length + b.length + 1 = xs.length := by rw [← ea, ← eb, List.length_take, List.length_drop]; omega
  have ab0 : (a ++ b)[0]? = some (m : Int) := by
    rw [List.getElem?_append_left (by rw [← ea, List.length_take]; omega), ← ea, List.getElem?_take, if_pos (by omega)]; exact x0
  have par : ∀ (ys : List Int), ys[0]? = some (m : Int) → ys.length + 1 = xs.length ∨ ys.length = xs.length + 1 → ∀ m', ¬ PartOK ys m' := fun ys y0 yl m' PO => by
    have := y0.symm.trans PO.1
    injection this with this
    have e1 := PO.2.2.2.1
    have e2 := PO.2.2.2.2
    omega
  walk_at "zz"
  refine s_addA O.lo O.up (by rw [List.length_map, List.length_map]; omega) fun d0 H3 n3 S3 f3 => ?_
  have O := O.step S3 (notc_ints (ys := a ++ b) (O.pen.ne n3) (by rw [List.map_append]; exact f3) (by rw [List.length_append]; omega) (par _ ab0 (.inl (by rw [List.length_append]; omega))))
  clear S3 f3 n3
  have hl := O.hl
  walk_at "zz"
  intro z1 hz1
  have O := O.stay (same_new (o := .lst [.int 0]) hz1)
  refine s_addA O.hl upd_same (by rw [List.length_map]; show _ + 1 ≤ _; omega) fun d1 H4 n4 S4 f4 => ?_
  have O := O.step S4 (notc_ints (ys := xs ++ [0]) (O.pen.ne n4) (by rw [List.map_append]; exact f4) (by rw [List.length_append]; show _ + 1 ≤ _; omega) (par _ (by rw [List.getElem?_append_left (by omega)]; exact x0) (.inr (by rw [List.length_append]; rfl))))
  clear S4 f4 n4 hz1 hl
  walk_at "zz"
  intro z2 hz2
  have O := O.stay (same_new (o := .lst [.bl true]) hz2)
  refine s_addA O.lo upd_same (by rw [List.length_map]; show _ + 1 ≤ _; omega) fun c2 H20 n20 S20 f20 => ?_
  have O := O.stay S20
  walk_at "zz"
  refine s_addA f20 O.up (by rw [List.length_append, List.length_map, List.length_map]; show _ + 1 + _ ≤ _; omega) fun d2 H21 n21 S21 f21 => ?_
  have O := O.step S21 (odd_at (O.pen.ne n21) f21 (fun _ _ => .inl (.inr (.inl ⟨true, rfl⟩))) rfl (by omega))
  clear S20 f20 n20 S21 f21 n21 hz2
  walk_at "zz"
  intro z3 hz3
  have O := O.stay (same_new (o := .lst [.str "0"]) hz3)
  refine s_addA O.lo upd_same (by rw [List.length_map]; show _ + 1 ≤ _; omega) fun c3 H30 n30 S30 f30 => ?_
  have O := O.stay S30
  walk_at "zz"
  refine s_addA f30 O.up (by rw [List.length_append, List.length_map, List.length_map]; show _ + 1 + _ ≤ _; omega) fun d3 H31 n31 S31 f31 => ?_
  have O := O.step S31 (odd_at (O.pen.ne n31) f31 (fun _ _ => .inl (.inr (.inr (.inl ⟨"0", rfl⟩)))) rfl (by omega))
  clear S30 f30 n30 S31 f31 n31 hz3
  walk_at "zz"
  intro z4 hz4
  have O := O.stay (same_new (o := .lst [.non]) hz4)
  refine s_addA O.lo upd_same (by rw [List.length_map]; show _ + 1 ≤ _; omega) fun c4 H40 n40 S40 f40 => ?_
  have O := O.stay S40
  walk_at "zz"
  refine s_addA f40 O.up (by rw [List.length_append, List.length_map, List.length_map]; show _ + 1 + _ ≤ _; omega) fun d4 H41 n41 S41 f41 => ?_
  have O := O.step S41 (odd_at (O.pen.ne n41) f41 (fun _ _ => .inl (.inr (.inr (.inr (.inl rfl))))) rfl (by omega))
  clear S40 f40 n40 S41 f41 n41 hz4
  walk_at "zz"
  intro la hla
  have O := O.stay (same_new (o := .lst [.ref d0, .ref d1, .ref d2, .ref d3, .ref d4]) hla)
  have fa : upd H41 la (.lst [.ref d0, .ref d1, .ref d2, .ref d3, .ref d4]) la = some (.lst [.ref d0, .ref d1, .ref d2, .ref d3, .ref d4]) := upd_same
  generalize upd H41 la (.lst [.ref d0, .ref d1, .ref d2, .ref d3, .ref d4]) = H42 at *
  clear hla
  walk_at "zz"
  intro y5 hy5
  have ny5 := O.pen.ne hy5
  have O := O.stay (same_new (o := .lst [.int 0]) hy5)
  have gy5 : upd H42 y5 (.lst [.int 0]) y5 = some (.lst [.int 0]) := upd_same
  have fa := up_new (u := .lst [.int 0]) hy5 fa
  walk_at "zz"
  intro z5 hz5
  have O := O.stay (same_new (o := .lst [.ref y5]) hz5)
  have gy5 := up_new (u := .lst [.ref y5]) hz5 gy5
  have fa := up_new (u := .lst [.ref y5]) hz5 fa
  refine s_addA O.lo upd_same (by rw [List.length_map]; show _ + 1 ≤ _; omega) fun c5 H50 n50 S50 f50 => ?_
  have O := O.stay S50
  have gy5 := S50 _ _ gy5
  have fa := S50 _ _ fa
  walk_at "zz"
  refine s_addA f50 O.up (by rw [List.length_append, List.length_map, List.length_map]; show _ + 1 + _ ≤ _; omega) fun d5 H51 n51 S51 f51 => ?_
  have O := O.step S51 (odd_at (O.pen.ne n51) f51 (fun _ B => .inr (.inl ⟨y5, [.int 0], rfl, SqL.of (B.rd ny5 (S51 _ _ gy5))⟩)) rfl (by omega))
  have fa := S51 _ _ fa
  clear S50 f50 n50 S51 f51 n51 hz5 hy5 gy5
  have hl := O.hl
  walk_at "zz"
  intro t6 ht6
  have S6 := same_new (o := .tup (xs.map V.int)) ht6
  have nt6 := O.pen.ne ht6
  have O := O.step S6 (fun _ B => .inl (.inr (.inl ⟨t6, _, rfl, SqT.of (B.rd nt6 upd_same)⟩)))
  have fa := S6 _ _ fa
  walk_at "zz"
  intro l7 hl7
  have S7 := same_new (o := .lst []) hl7
  have nl7 := O.pen.ne hl7
  have O := O.step S7 (fun _ B => .inl (.inr (.inr ⟨l7, [], rfl, SqL.of (B.rd nl7 upd_same), by simp, by decide, .inl rfl⟩)))
  have O := O.step (Same.refl _) (notc_seq (v := .str "") (fun _ _ => .inr (.inr (.inl ⟨_, rfl⟩))))
  have O := O.step (Same.refl _) (notc_seq (v := .str "1 0 0 0 7 0") (fun _ _ => .inr (.inr (.inl ⟨_, rfl⟩))))
  have O := O.step (Same.refl _) (notc_seq (v := .non) (fun _ _ => .inr (.inr (.inr (.inl rfl)))))
  have O := O.step (Same.refl _) (notc_seq (v := .int 7) (fun _ _ => .inl ⟨7, rfl⟩))
  have O := O.step (Same.refl _) (notc_seq (v := .bl true) (fun _ _ => .inr (.inl ⟨true, rfl⟩)))
  have fa := S7 _ _ fa
  walk_at "zz"
  intro d8 hd8
  have S8 := same_new (o := .dK []) hd8
  have nd8 := O.pen.ne hd8
  have O := O.step S8 (notc_seq (v := .ref d8) (fun _ B => .inr (.inr (.inr (.inr ⟨d8, [], rfl, B.rd nd8 upd_same⟩)))))
  have fa := S8 _ _ fa
  walk_at "zz"
  intro l9 hl9
  have S9 := same_new (o := .lst [.ref l]) hl9
  have nl9 := O.pen.ne hl9
  have hl9' := S9 _ _ O.hl
  have O := O.step S9 (fun _ B => .inl (.inr (.inr ⟨l9, [.ref l], rfl, SqL.of (B.rd nl9 upd_same), fun x hx => (by rw [List.mem_singleton.mp hx]; exact .inr (.inl ⟨l, _, rfl, SqL.of (B.rd nlp hl9')⟩)), by show 1 ≤ 100000; omega, .inr rfl⟩)))
  have fa := S9 _ _ fa
  walk_at "zz"
  intro lb hlb
  have Sb := same_new (o := .lst [.ref d5, .ref t6, .ref l7, .str "", .str "1 0 0 0 7 0", .non, .int 7, .bl true, .ref d8, .ref l9]) hlb
  have O := O.stay Sb
  have fa := Sb _ _ fa
  refine s_addA fa upd_same (by show 5 + 10 ≤ 100000; omega) fun lc H60 n60 S60 f60 => ?_
  have O := O.stay S60
  clear S6 S7 S8 S9 Sb S60 fa ht6 hl7 hd8 hl9 hlb n60
  have hl := O.hl
  have hx0 : (xs.map V.int)[0]? = some (.int (m : Int)) := by rw [List.getElem?_map, x0]; rfl
  walk_at "zz"
  refine s_ixN (m := 0) (SqL.of hl) hx0 ?_
  walk_at "zz"
  intro l10 hl10
  have S1 := same_new (o := .lst [.int (m : Int)]) hl10
  have O := O.step S1 (notc_ints (d := l10) (ys := [(m : Int)]) (O.pen.ne hl10) upd_same (by show 1 ≤ _; omega) fun m' PO => by
    have e1 := PO.2.2.2.1
    have e2 := PO.2.1
    simp only [List.length_cons, List.length_nil] at e1
    omega)
  have f60 := S1 _ _ f60
  have hl := O.hl
  walk_at "zz"
  intro l11 hl11
  rw [cut_last _ (by rw [List.length_map]; omega), List.length_map, ← List.map_take]
  have S2 := same_new (o := .lst ((xs.take (xs.length - 1)).map V.int)) hl11
  have O := O.step S2 (notc_ints (d := l11) (ys := xs.take (xs.length - 1)) (O.pen.ne hl11) upd_same (by rw [List.length_take]; omega) (par _ (by rw [List.getElem?_take, if_pos (by omega)]; exact x0) (.inl (by rw [List.length_take]; omega))))
  have f60 := S2 _ _ f60
  clear S1 S2 hl10 hl11
  have hl := O.hl
  walk_at "zz"
  intro z12 hz12
  have S1 := same_new (o := .lst [.int 0]) hz12
  have O := O.stay S1
  have f60 := S1 _ _ f60
  have hl := O.hl
  walk_at "zz"
  intro l12 hl12
  rw [show (1 : Int) = ((1 : Nat) : Int) from rfl, cut_dropI]
  have S2 := same_new (o := .lst ((xs.drop 1).map V.int)) hl12
  have O := O.stay S2
  have f60 := S2 _ _ f60
  refine s_addA (S2 _ _ upd_same) upd_same (by rw [List.length_map, List.length_drop]; show 1 + _ ≤ _; omega) fun d12 H70 n70 S70 f70 => ?_
  have O := O.step S70 (notc_ints (ys := 0 :: xs.drop 1) (O.pen.ne n70) f70 (by rw [List.length_cons, List.length_drop]; omega) fun m' PO => by
    have e := PO.1
    have := PO.2.1
    injection e with e
    omega)
  have f60 := S70 _ _ f60
  clear S1 S2 hz12 hl12 S70 f70 n70
  walk_at "zz"
  intro t13 ht13
  have S1 := same_new (o := .tup [.int 0, .int 0]) ht13
  have nt13 := O.pen.ne ht13
  have O := O.stay S1
  have f60 := S1 _ _ f60
  walk_at "zz"
  intro z13 hz13
  have S2 := same_new (o := .lst [.ref t13]) hz13
  have O := O.stay S2
  have f60 := S2 _ _ f60
  have g13 := S2 _ _ (upd_same (H := H70) (a := t13) (o := .tup [.int 0, .int 0]))
  refine s_addA O.lo upd_same (by rw [List.length_map]; show _ + 1 ≤ _; omega) fun c13 H80 n80 S80 f80 => ?_
  have O := O.stay S80
  have f60 := S80 _ _ f60
  have g13 := S80 _ _ g13
  clear S1 S2 ht13 hz13 n80 S80
  walk_at "zz"
  refine s_addA f80 O.up (by rw [List.length_append, List.length_map, List.length_map]; show _ + 1 + _ ≤ _; omega) fun d13 H81 n81 S81 f81 => ?_
  have O := O.step S81 (odd_at (O.pen.ne n81) f81 (fun _ B => .inr (.inr ⟨t13, [.int 0, .int 0], rfl, SqT.of (B.rd nt13 (S81 _ _ g13))⟩)) rfl (by omega))
  have f60 := S81 _ _ f60
  clear S81 f81 n81 f80 g13
  walk_at "zz"
  intro le hle
  have Se := same_new (o := .lst [.ref l10, .ref l11, .ref d12, .ref d13]) hle
  have O := O.stay Se
  have P8 := O.pen
  refine s_addA (Se _ _ f60) upd_same (by show 15 + 4 ≤ 100000; omega) fun lz H90 n90 S90 f90 => ?_
  have O := O.stay S90
  have P9 := O.pen
  have nz := P8.ne n90
  have B19 := B1.trans (But.of O.S)
  have all := O.all
  clear O S90 Se P8 f60 hl
  walk_at "zz"
  refine c_take (by show (0 : Int) < 19 ∧ (19 : Int) < _; decide) P9 fun w H95 w0 w1 P95 B95 => ?_
  have f95 := B95.rd nz f90
  have allc : ∀ v ∈ ([V.ref d0, V.ref d1, V.ref d2, V.ref d3, V.ref d4] ++ [V.ref d5, V.ref t6, V.ref l7, V.str "", V.str "1 0 0 0 7 0", V.non, V.int 7, V.bl true, V.ref d8, V.ref l9] ++ [V.ref l10, V.ref l11, V.ref d12, V.ref d13]), NotB p Z.K H90 v := all
  have lz : ([V.ref d0, V.ref d1, V.ref d2, V.ref d3, V.ref d4] ++ [V.ref d5, V.ref t6, V.ref l7, V.str "", V.str "1 0 0 0 7 0", V.non, V.int 7, V.bl true, V.ref d8, V.ref l9] ++ [V.ref l10, V.ref l11, V.ref d12, V.ref d13]).length = 19 := rfl
  replace w1 : w < 19 := w1
  clear all
  generalize ([V.ref d0, V.ref d1, V.ref d2, V.ref d3, V.ref d4] ++ [V.ref d5, V.ref t6, V.ref l7, V.str "", V.str "1 0 0 0 7 0", V.non, V.int 7, V.bl true, V.ref d8, V.ref l9] ++ [V.ref l10, V.ref l11, V.ref d12, V.ref d13]) = zs at *
  have hw : w.toNat < zs.length := by omega
  refine s_ix_l (SqL.of f95) (at_ofN (j := w.toNat) (by omega) (List.getElem?_eq_getElem hw)) ?_
  exact q _ H95 (B19.trans B95) P95 (allc _ (List.getElem_mem hw) H95 B95)

theorem rd_Ltried {Z : Adr} (T : Top Z) {a0 a1 a2 : V} {H : Hp} {Q : VK} {E : XK} (h : q_Ltried Z a0 a1 a2 H Q E) : t_Ltried Z (fun cls d _ H => E cls d H) ⟨fun _ H' => Q .non H', Q, fun _ _ => False, fun _ _ => False⟩ [some a0, some a1, some a2, none, none] H := by
  unfold t_Ltried
  obtain ⟨w, rfl, h⟩ := h
  walk_at "zz"
  refine s_tryKeep ?_
  rcases h with ⟨hs, rs, rfl, hb, hc, C, r24, q⟩ | ⟨l, hs, rs, rfl, rfl, hl, C, r24, q⟩ | ⟨rfl, bad, q⟩ | ⟨hw, hn, q⟩
  · walk_at "zz"
    refine s_ifdf (by decide) ?_
    walk_at "zz"
    refine s_ifdf (by decide) ?_
    walk_at "zz"
    refine s_ifdf (by decide) ?_
    walk_at "zz"
    refine cl_code_of (.inl ⟨hs, rs, hb, hc, C, by omega, fun l H1 S1 _ _ => ?_⟩)
    walk_at "zz"
    refine cl_Lword (.inl ⟨rfl, fun H2 S2 => ?_⟩)
    exact q _ (S1.trans S2)
  · have lenc := codeL_len C.c
    have h16 := C.c.h16
    walk_at "zz"
    refine s_ifdf (by decide) ?_
    walk_at "zz"
    refine s_ifdf (by decide) ?_
    walk_at "zz"
    refine s_ifdt (by decide) ?_
    walk_at "zz"
    intro l0 hl0
    have S0 := same_new (o := .lst []) hl0
    walk_at "zz"
    refine cl_go (.inl ⟨l, l0, _, [], hs, rs, 1, 9, 9, rfl, rfl, rfl, rfl, S0.seq hl, ⟨C.c, rfl⟩, C, by omega, SqL.of upd_same, by decide, by simp, ⟨by omega, by omega, fun z => absurd z (by omega)⟩, fun to lo H1 S1 _ _ _ _ _ => ?_⟩)
    walk_at "zz"
    refine cl_Lword (.inl ⟨rfl, fun H2 S2 => ?_⟩)
    exact q _ ((S0.trans S1).trans S2)
  · walk_at "zz"
    refine s_ifdf (by decide) ?_
    walk_at "zz"
    refine s_ifdf (by decide) ?_
    walk_at "zz"
    refine s_ifdf (by decide) ?_
    walk_at "zz"
    refine cl_code_of (.inr ⟨bad, fun H1 S1 => ⟨true, T.ex_NoCode_ChainError, fun _ a ha => ?_, fun z => by cases z⟩⟩)
    walk_at "zz"
    intro _
    have S2 := same_new (o := kxo a (.ref Z.c_NoCode) none) ha
    walk_at "zz"
    refine cl_Lword (.inr ⟨a, rfl, upd_same, fun H3 S3 => ?_⟩)
    exact q _ ((S1.trans S2).trans S3)
  · rcases hw with z | z | z <;> subst z
    · walk_at "zz"
      refine s_ifdt (by decide) ?_
      walk_at "zz"
      refine cl_heads_of (.inr ⟨hn, fun H1 S1 => ⟨true, T.ex_NoCode_ChainError, fun _ a ha => ?_, fun z => by cases z⟩⟩)
      walk_at "zz"
      intro _
      have S2 := same_new (o := kxo a (.ref Z.c_NoCode) none) ha
      walk_at "zz"
      refine cl_Lword (.inr ⟨a, rfl, upd_same, fun H3 S3 => ?_⟩)
      exact q _ ((S1.trans S2).trans S3)
    · walk_at "zz"
      refine s_ifdf (by decide) ?_
      walk_at "zz"
      refine s_ifdt (by decide) ?_
      walk_at "zz"
      refine cl_rows_of (.inr ⟨hn, fun H1 S1 => ⟨true, T.ex_NoCode_ChainError, fun _ a ha => ?_, fun z => by cases z⟩⟩)
      walk_at "zz"
      intro _
      have S2 := same_new (o := kxo a (.ref Z.c_NoCode) none) ha
      walk_at "zz"
      refine cl_Lword (.inr ⟨a, rfl, upd_same, fun H3 S3 => ?_⟩)
      exact q _ ((S1.trans S2).trans S3)
    · walk_at "zz"
      refine s_ifdf (by decide) ?_
      walk_at "zz"
      refine s_ifdf (by decide) ?_
      walk_at "zz"
      refine s_ifdt (by decide) ?_
      walk_at "zz"
      intro l0 hl0
      have S0 := same_new (o := .lst []) hl0
      walk_at "zz"
      refine cl_go (.inr ⟨hn.same S0, fun H1 S1 => ⟨true, T.ex_NoCode_ChainError, fun _ a ha => ?_, fun z => by cases z⟩⟩)
      walk_at "zz"
      intro _
      have S2 := same_new (o := kxo a (.ref Z.c_NoCode) none) ha
      walk_at "zz"
      refine cl_Lword (.inr ⟨a, rfl, upd_same, fun H3 S3 => ?_⟩)
      exact q _ (((S0.trans S1).trans S2).trans S3)

theorem rd_Lrefused {Z : Adr} (T : Top Z) {a0 : V} {H : Hp} {Q : VK} {E : XK} (h : q_Lrefused Z a0 H Q E) : t_Lrefused Z (fun cls d _ H => E cls d H) ⟨fun _ H' => Q .non H', Q, fun _ _ => False, fun _ _ => False⟩ [some a0, none, none] H := by
  unfold t_Lrefused
  obtain ⟨hn, q⟩ := h
  have big : 1000000 ≤ sizeLine := by decide
  walk_at "zz"
  refine cl_is_code (.inr ⟨hn, fun H1 S1 => ?_⟩)
  walk_at "zz"
  rw [show (!decide (false = false)) = false from rfl]
  walk_at "zz"
  refine lc_rng (fun D j H' => Same H1 H' ∧ H' D = some (.lst (List.replicate j (.str "code")))) (fun D hD => ⟨same_new hD, upd_same⟩) ?_ ?_
  · rintro D j H2 hD hj ⟨S2, h2⟩
    walk_at "zz"
    refine cl_Ltried ⟨0 + (j : Int), rfl, .inr (.inr (.inr ⟨by omega, hn.same (S1.trans S2), fun H3 S3 => ?_⟩))⟩
    refine c_acc (S3 _ _ h2) (by rw [List.length_replicate]; omega) fun H4 B4 h4 => ⟨same_own (S2.trans S3) B4 hD, ?_⟩
    rw [h4, List.replicate_succ']
  · rintro D H2 hD ⟨S2, h2⟩
    walk_at "zz"
    intro l hl
    walk_at "zz"
    refine s_rep upd_same (by omega) (by decide) fun l2 hl2 => ?_
    have S3 := (same_new (o := .lst [.str "code"]) hl).trans (same_new (o := .lst (List.replicate (3 : Int).toNat [V.str "code"]).flatten) hl2)
    have sh : Sh 2 (.list [.str "code", .str "code", .str "code"]) := Sh.list (n := 1) fun d hd => by
      simp only [List.mem_cons, List.not_mem_nil, or_false] at hd
      rcases hd with e | e | e <;> subst e <;> exact Sh.str (by decide +kernel)
    walk_at "zz"
    refine s_eq_d (d := .list [.str "code", .str "code", .str "code"]) (e := .list [.str "code", .str "code", .str "code"]) (.lst (SqL.of (S3 _ _ h2)) (.cons (.str _) (.cons (.str _) (.cons (.str _) .nil)))) (.lst (SqL.of upd_same) (.cons (.str _) (.cons (.str _) (.cons (.str _) .nil)))) (sh.shaped (by decide)) (sh.shaped (by decide)) ?_
    rw [sh.refl]
    exact q _ ((S1.trans S2).trans S3)

theorem rd_law {Z : Adr} (T : Top Z) {a0 : V} {H : Hp} {Q : VK} {E : XK} (h : q_law Z a0 H Q E) : t_law Z (fun cls d _ H => E cls d H) ⟨fun _ H' => Q .non H', Q, fun _ _ => False, fun _ _ => False⟩ [some a0, none, none, none, none, none, none, none, none, none] H := by
  unfold t_law
  obtain ⟨a, ns, rfl, hO, hS, hns, q⟩ := h
  have big : 1000000 ≤ sizeLine := by decide
  walk_at "zz"
  refine cl_Lpen ⟨a, ns, rfl, hS, fun p H1 S1 hp0 P1 => ?_⟩
  walk_at "zz"
  refine cl_Lcode ⟨p, rfl, P1, fun t lh lr vh vr hs rs H2 B2 P2 ht nlh nlr hlh hlr th tr C hfig hr24 => ?_⟩
  have CF : CodeFig hs rs := ⟨C, fun r hr => fig60 (hfig r hr).1 (hfig r hr).2⟩
  have h16 := C.h16
  walk_at "zz"
  refine cl_Lflat ⟨lh, lr, vh, vr, hs, rs, rfl, rfl, hlh, hlr, th, tr, C.h3, C.r2, by omega, by omega, fun l H3 S3 hl0 hl => ?_⟩
  have nl := P2.ne hl0
  have P3 := P2.same S3
  have hlh3 := S3 _ _ hlh
  have hlr3 := S3 _ _ hlr
  have th3 := th.mono (TupS.of S3)
  have tr3 := tr.mono (TupS.of S3)
  clear hlh hlr th tr ht B2 P2 P1
  walk_at "zz"
  refine loop_range (fun i σ' H' => ∃ (x5 x6 x7 : Option V), Pn Z.K PN H' p ∧ But p H3 H' ∧ σ' = [some (.ref a), some (.ref p), some (.ref lh), some (.ref lr), some (.ref l), x5, x6, x7, none, none]) ⟨none, none, none, P3, But.refl p H3, rfl⟩ ?_ ?_
  · rintro i σ' H4 hi ⟨x5, x6, x7, P4, B4, rfl⟩
    walk_at "zz"
    refine cl_Lbent ⟨p, lh, lr, vh, vr, hs, rs, rfl, rfl, rfl, P4, nlh, nlr, B4.rd nlh hlh3, B4.rd nlr hlr3, th3.mono (P3.tups B4), tr3.mono (P3.tups B4), C, hr24, fun t la lb va vb hs' rs' H5 B5 P5 ht hla hlb tha trb h3 r2 l1 l2 nC na nb => ?_⟩
    walk_at "zz"
    have sc : PyData.strOk ("code" : Str) = true := by decide +kernel
    refine cl_Ltried ⟨3, rfl, .inr (.inr (.inl ⟨rfl, .inr ⟨hs', rs', ⟨la, va, rfl, .inl (SqL.of hla), tha.imp fun _ _ _ z => z.seq⟩, ⟨lb, vb, rfl, .inl (SqL.of hlb), trb.imp fun _ _ _ z => z.seq⟩, h3, r2, by omega, by omega, nC⟩, fun H6 S6 => ?_⟩))⟩
    walk_at "zz"
    refine s_nft rfl ?_
    walk_at "zz"
    refine cl_Lflat ⟨la, lb, va, vb, hs', rs', rfl, rfl, S6 _ _ hla, S6 _ _ hlb, tha.mono (TupS.of S6), trb.mono (TupS.of S6), h3, r2, by omega, by omega, fun lf H7 S7 hlf0 hlf => ?_⟩
    have lenf : (codeL hs' rs').length ≤ 100000 := by
      unfold codeL
      rw [List.length_cons, List.length_append, flat_sum h3, flat_sum r2]
      omega
    walk_at "zz"
    refine cl_Lrefused ⟨.inr ⟨lf, _, rfl, SqL.of hlf, lenf, codeL_no h3 r2 nC⟩, fun H8 S8 => ?_⟩
    have S58 := (S6.trans S7).trans S8
    have P8 := P5.same S58
    have B8 := (B4.trans B5).trans (But.of S58)
    walk_at "zz"
    refine cl_Lodd ⟨p, l, hs, rs, rfl, rfl, P8, nl, C, hr24, B8.rd nl hl, fun v H9 B9 P9 hv => ?_⟩
    walk_at "zz"
    refine cl_Lrefused ⟨hv, fun H10 S10 => ?_⟩
    walk_at "zz"
    exact ⟨_, _, _, P9.same S10, (B8.trans B9).trans (But.of S10), rfl⟩
  · rintro σ' H4 ⟨x5, x6, x7, P4, B4, rfl⟩
    have hlh4 := B4.rd nlh hlh3
    have hlr4 := B4.rd nlr hlr3
    have th4 := th3.mono (P3.tups B4)
    have tr4 := tr3.mono (P3.tups B4)
    have hl4 := B4.rd nl hl
    clear hlh3 hlr3 th3 tr3 hl P4 B4
    walk_at "zz"
    intro t1 ht1
    walk_at "zz"
    intro t2 ht2
    walk_at "zz"
    intro t3 ht3
    walk_at "zz"
    intro t4 ht4
    walk_at "zz"
    intro u5 hu5
    walk_at "zz"
    intro l5 hl5
    walk_at "zz"
    intro t5 ht5
    walk_at "zz"
    intro u6 hu6
    walk_at "zz"
    intro l6 hl6
    walk_at "zz"
    intro t6 ht6
    walk_at "zz"
    intro lb hlb
    have S_H5 : Same H4 (upd (upd (upd (upd (upd (upd (upd (upd (upd (upd (upd H4 t1 (.tup [.non, .ref lr])) t2 (.tup [.ref lh, .non])) t3 (.tup [.str "", .ref lr])) t4 (.tup [.ref lh, .int 7])) u5 (.tup [.int 0, .int 0])) l5 (.lst [.ref u5])) t5 (.tup [.ref l5, .ref lr])) u6 (.tup [.int 7, .int 0, .int 0])) l6 (.lst [.ref u6])) t6 (.tup [.ref lh, .ref l6])) lb (.lst [.ref t1, .ref t2, .ref t3, .ref t4, .ref t5, .ref t6])) := (((((((((((same_new (o := (.tup [.non, .ref lr])) ht1).trans (same_new (o := (.tup [.ref lh, .non])) ht2)).trans (same_new (o := (.tup [.str "", .ref lr])) ht3)).trans (same_new (o := (.tup [.ref lh, .int 7])) ht4)).trans (same_new (o := (.tup [.int 0, .int 0])) hu5)).trans (same_new (o := (.lst [.ref u5])) hl5)).trans (same_new (o := (.tup [.ref l5, .ref lr])) ht5)).trans (same_new (o := (.tup [.int 7, .int 0, .int 0])) hu6)).trans (same_new (o := (.lst [.ref u6])) hl6)).trans (same_new (o := (.tup [.ref lh, .ref l6])) ht6)).trans (same_new (o := (.lst [.ref t1, .ref t2, .ref t3, .ref t4, .ref t5, .ref t6])) hlb))
    have f_t1 : (upd (upd (upd (upd (upd (upd (upd (upd (upd (upd (upd H4 t1 (.tup [.non, .ref lr])) t2 (.tup [.ref lh, .non])) t3 (.tup [.str "", .ref lr])) t4 (.tup [.ref lh, .int 7])) u5 (.tup [.int 0, .int 0])) l5 (.lst [.ref u5])) t5 (.tup [.ref l5, .ref lr])) u6 (.tup [.int 7, .int 0, .int 0])) l6 (.lst [.ref u6])) t6 (.tup [.ref lh, .ref l6])) lb (.lst [.ref t1, .ref t2, .ref t3, .ref t4, .ref t5, .ref t6])) t1 = some (.tup [.non, .ref lr]) := ((((((((((same_new (o := (.tup [.ref lh, .non])) ht2).trans (same_new (o := (.tup [.str "", .ref lr])) ht3)).trans (same_new (o := (.tup [.ref lh, .int 7])) ht4)).trans (same_new (o := (.tup [.int 0, .int 0])) hu5)).trans (same_new (o := (.lst [.ref u5])) hl5)).trans (same_new (o := (.tup [.ref l5, .ref lr])) ht5)).trans (same_new (o := (.tup [.int 7, .int 0, .int 0])) hu6)).trans (same_new (o := (.lst [.ref u6])) hl6)).trans (same_new (o := (.tup [.ref lh, .ref l6])) ht6)).trans (same_new (o := (.lst [.ref t1, .ref t2, .ref t3, .ref t4, .ref t5, .ref t6])) hlb)) _ _ (upd_same (H := H4) (a := t1) (o := (.tup [.non, .ref lr])))
    have f_t2 : (upd (upd (upd (upd (upd (upd (upd (upd (upd (upd (upd H4 t1 (.tup [.non, .ref lr])) t2 (.tup [.ref lh, .non])) t3 (.tup [.str "", .ref lr])) t4 (.tup [.ref lh, .int 7])) u5 (.tup [.int 0, .int 0])) l5 (.lst [.ref u5])) t5 (.tup [.ref l5, .ref lr])) u6 (.tup [.int 7, .int 0, .int 0])) l6 (.lst [.ref u6])) t6 (.tup [.ref lh, .ref l6])) lb (.lst [.ref t1, .ref t2, .ref t3, .ref t4, .ref t5, .ref t6])) t2 = some (.tup [.ref lh, .non]) := (((((((((same_new (o := (.tup [.str "", .ref lr])) ht3).trans (same_new (o := (.tup [.ref lh, .int 7])) ht4)).trans (same_new (o := (.tup [.int 0, .int 0])) hu5)).trans (same_new (o := (.lst [.ref u5])) hl5)).trans (same_new (o := (.tup [.ref l5, .ref lr])) ht5)).trans (same_new (o := (.tup [.int 7, .int 0, .int 0])) hu6)).trans (same_new (o := (.lst [.ref u6])) hl6)).trans (same_new (o := (.tup [.ref lh, .ref l6])) ht6)).trans (same_new (o := (.lst [.ref t1, .ref t2, .ref t3, .ref t4, .ref t5, .ref t6])) hlb)) _ _ (upd_same (H := (upd H4 t1 (.tup [.non, .ref lr]))) (a := t2) (o := (.tup [.ref lh, .non])))
    have f_t3 : (upd (upd (upd (upd (upd (upd (upd (upd (upd (upd (upd H4 t1 (.tup [.non, .ref lr])) t2 (.tup [.ref lh, .non])) t3 (.tup [.str "", .ref lr])) t4 (.tup [.ref lh, .int 7])) u5 (.tup [.int 0, .int 0])) l5 (.lst [.ref u5])) t5 (.tup [.ref l5, .ref lr])) u6 (.tup [.int 7, .int 0, .int 0])) l6 (.lst [.ref u6])) t6 (.tup [.ref lh, .ref l6])) lb (.lst [.ref t1, .ref t2, .ref t3, .ref t4, .ref t5, .ref t6])) t3 = some (.tup [.str "", .ref lr]) := ((((((((same_new (o := (.tup [.ref lh, .int 7])) ht4).trans (same_new (o := (.tup [.int 0, .int 0])) hu5)).trans (same_new (o := (.lst [.ref u5])) hl5)).trans (same_new (o := (.tup [.ref l5, .ref lr])) ht5)).trans (same_new (o := (.tup [.int 7, .int 0, .int 0])) hu6)).trans (same_new (o := (.lst [.ref u6])) hl6)).trans (same_new (o := (.tup [.ref lh, .ref l6])) ht6)).trans (same_new (o := (.lst [.ref t1, .ref t2, .ref t3, .ref t4, .ref t5, .ref t6])) hlb)) _ _ (upd_same (H := (upd (upd H4 t1 (.tup [.non, .ref lr])) t2 (.tup [.ref lh, .non]))) (a := t3) (o := (.tup [.str "", .ref lr])))
    have f_t4 : (upd (upd (upd (upd (upd (upd (upd (upd (upd (upd (upd H4 t1 (.tup [.non, .ref lr])) t2 (.tup [.ref lh, .non])) t3 (.tup [.str "", .ref lr])) t4 (.tup [.ref lh, .int 7])) u5 (.tup [.int 0, .int 0])) l5 (.lst [.ref u5])) t5 (.tup [.ref l5, .ref lr])) u6 (.tup [.int 7, .int 0, .int 0])) l6 (.lst [.ref u6])) t6 (.tup [.ref lh, .ref l6])) lb (.lst [.ref t1, .ref t2, .ref t3, .ref t4, .ref t5, .ref t6])) t4 = some (.tup [.ref lh, .int 7]) := (((((((same_new (o := (.tup [.int 0, .int 0])) hu5).trans (same_new (o := (.lst [.ref u5])) hl5)).trans (same_new (o := (.tup [.ref l5, .ref lr])) ht5)).trans (same_new (o := (.tup [.int 7, .int 0, .int 0])) hu6)).trans (same_new (o := (.lst [.ref u6])) hl6)).trans (same_new (o := (.tup [.ref lh, .ref l6])) ht6)).trans (same_new (o := (.lst [.ref t1, .ref t2, .ref t3, .ref t4, .ref t5, .ref t6])) hlb)) _ _ (upd_same (H := (upd (upd (upd H4 t1 (.tup [.non, .ref lr])) t2 (.tup [.ref lh, .non])) t3 (.tup [.str "", .ref lr]))) (a := t4) (o := (.tup [.ref lh, .int 7])))
    have f_u5 : (upd (upd (upd (upd (upd (upd (upd (upd (upd (upd (upd H4 t1 (.tup [.non, .ref lr])) t2 (.tup [.ref lh, .non])) t3 (.tup [.str "", .ref lr])) t4 (.tup [.ref lh, .int 7])) u5 (.tup [.int 0, .int 0])) l5 (.lst [.ref u5])) t5 (.tup [.ref l5, .ref lr])) u6 (.tup [.int 7, .int 0, .int 0])) l6 (.lst [.ref u6])) t6 (.tup [.ref lh, .ref l6])) lb (.lst [.ref t1, .ref t2, .ref t3, .ref t4, .ref t5, .ref t6])) u5 = some (.tup [.int 0, .int 0]) := ((((((same_new (o := (.lst [.ref u5])) hl5).trans (same_new (o := (.tup [.ref l5, .ref lr])) ht5)).trans (same_new (o := (.tup [.int 7, .int 0, .int 0])) hu6)).trans (same_new (o := (.lst [.ref u6])) hl6)).trans (same_new (o := (.tup [.ref lh, .ref l6])) ht6)).trans (same_new (o := (.lst [.ref t1, .ref t2, .ref t3, .ref t4, .ref t5, .ref t6])) hlb)) _ _ (upd_same (H := (upd (upd (upd (upd H4 t1 (.tup [.non, .ref lr])) t2 (.tup [.ref lh, .non])) t3 (.tup [.str "", .ref lr])) t4 (.tup [.ref lh, .int 7]))) (a := u5) (o := (.tup [.int 0, .int 0])))
    have f_l5 : (upd (upd (upd (upd (upd (upd (upd (upd (upd (upd (upd H4 t1 (.tup [.non, .ref lr])) t2 (.tup [.ref lh, .non])) t3 (.tup [.str "", .ref lr])) t4 (.tup [.ref lh, .int 7])) u5 (.tup [.int 0, .int 0])) l5 (.lst [.ref u5])) t5 (.tup [.ref l5, .ref lr])) u6 (.tup [.int 7, .int 0, .int 0])) l6 (.lst [.ref u6])) t6 (.tup [.ref lh, .ref l6])) lb (.lst [.ref t1, .ref t2, .ref t3, .ref t4, .ref t5, .ref t6])) l5 = some (.lst [.ref u5]) := (((((same_new (o := (.tup [.ref l5, .ref lr])) ht5).trans (same_new (o := (.tup [.int 7, .int 0, .int 0])) hu6)).trans (same_new (o := (.lst [.ref u6])) hl6)).trans (same_new (o := (.tup [.ref lh, .ref l6])) ht6)).trans (same_new (o := (.lst [.ref t1, .ref t2, .ref t3, .ref t4, .ref t5, .ref t6])) hlb)) _ _ (upd_same (H := (upd (upd (upd (upd (upd H4 t1 (.tup [.non, .ref lr])) t2 (.tup [.ref lh, .non])) t3 (.tup [.str "", .ref lr])) t4 (.tup [.ref lh, .int 7])) u5 (.tup [.int 0, .int 0]))) (a := l5) (o := (.lst [.ref u5])))
    have f_t5 : (upd (upd (upd (upd (upd (upd (upd (upd (upd (upd (upd H4 t1 (.tup [.non, .ref lr])) t2 (.tup [.ref lh, .non])) t3 (.tup [.str "", .ref lr])) t4 (.tup [.ref lh, .int 7])) u5 (.tup [.int 0, .int 0])) l5 (.lst [.ref u5])) t5 (.tup [.ref l5, .ref lr])) u6 (.tup [.int 7, .int 0, .int 0])) l6 (.lst [.ref u6])) t6 (.tup [.ref lh, .ref l6])) lb (.lst [.ref t1, .ref t2, .ref t3, .ref t4, .ref t5, .ref t6])) t5 = some (.tup [.ref l5, .ref lr]) := ((((same_new (o := (.tup [.int 7, .int 0, .int 0])) hu6).trans (same_new (o := (.lst [.ref u6])) hl6)).trans (same_new (o := (.tup [.ref lh, .ref l6])) ht6)).trans (same_new (o := (.lst [.ref t1, .ref t2, .ref t3, .ref t4, .ref t5, .ref t6])) hlb)) _ _ (upd_same (H := (upd (upd (upd (upd (upd (upd H4 t1 (.tup [.non, .ref lr])) t2 (.tup [.ref lh, .non])) t3 (.tup [.str "", .ref lr])) t4 (.tup [.ref lh, .int 7])) u5 (.tup [.int 0, .int 0])) l5 (.lst [.ref u5]))) (a := t5) (o := (.tup [.ref l5, .ref lr])))
    have f_u6 : (upd (upd (upd (upd (upd (upd (upd (upd (upd (upd (upd H4 t1 (.tup [.non, .ref lr])) t2 (.tup [.ref lh, .non])) t3 (.tup [.str "", .ref lr])) t4 (.tup [.ref lh, .int 7])) u5 (.tup [.int 0, .int 0])) l5 (.lst [.ref u5])) t5 (.tup [.ref l5, .ref lr])) u6 (.tup [.int 7, .int 0, .int 0])) l6 (.lst [.ref u6])) t6 (.tup [.ref lh, .ref l6])) lb (.lst [.ref t1, .ref t2, .ref t3, .ref t4, .ref t5, .ref t6])) u6 = some (.tup [.int 7, .int 0, .int 0]) := (((same_new (o := (.lst [.ref u6])) hl6).trans (same_new (o := (.tup [.ref lh, .ref l6])) ht6)).trans (same_new (o := (.lst [.ref t1, .ref t2, .ref t3, .ref t4, .ref t5, .ref t6])) hlb)) _ _ (upd_same (H := (upd (upd (upd (upd (upd (upd (upd H4 t1 (.tup [.non, .ref lr])) t2 (.tup [.ref lh, .non])) t3 (.tup [.str "", .ref lr])) t4 (.tup [.ref lh, .int 7])) u5 (.tup [.int 0, .int 0])) l5 (.lst [.ref u5])) t5 (.tup [.ref l5, .ref lr]))) (a := u6) (o := (.tup [.int 7, .int 0, .int 0])))
    have f_l6 : (upd (upd (upd (upd (upd (upd (upd (upd (upd (upd (upd H4 t1 (.tup [.non, .ref lr])) t2 (.tup [.ref lh, .non])) t3 (.tup [.str "", .ref lr])) t4 (.tup [.ref lh, .int 7])) u5 (.tup [.int 0, .int 0])) l5 (.lst [.ref u5])) t5 (.tup [.ref l5, .ref lr])) u6 (.tup [.int 7, .int 0, .int 0])) l6 (.lst [.ref u6])) t6 (.tup [.ref lh, .ref l6])) lb (.lst [.ref t1, .ref t2, .ref t3, .ref t4, .ref t5, .ref t6])) l6 = some (.lst [.ref u6]) := ((same_new (o := (.tup [.ref lh, .ref l6])) ht6).trans (same_new (o := (.lst [.ref t1, .ref t2, .ref t3, .ref t4, .ref t5, .ref t6])) hlb)) _ _ (upd_same (H := (upd (upd (upd (upd (upd (upd (upd (upd H4 t1 (.tup [.non, .ref lr])) t2 (.tup [.ref lh, .non])) t3 (.tup [.str "", .ref lr])) t4 (.tup [.ref lh, .int 7])) u5 (.tup [.int 0, .int 0])) l5 (.lst [.ref u5])) t5 (.tup [.ref l5, .ref lr])) u6 (.tup [.int 7, .int 0, .int 0]))) (a := l6) (o := (.lst [.ref u6])))
    have f_t6 : (upd (upd (upd (upd (upd (upd (upd (upd (upd (upd (upd H4 t1 (.tup [.non, .ref lr])) t2 (.tup [.ref lh, .non])) t3 (.tup [.str "", .ref lr])) t4 (.tup [.ref lh, .int 7])) u5 (.tup [.int 0, .int 0])) l5 (.lst [.ref u5])) t5 (.tup [.ref l5, .ref lr])) u6 (.tup [.int 7, .int 0, .int 0])) l6 (.lst [.ref u6])) t6 (.tup [.ref lh, .ref l6])) lb (.lst [.ref t1, .ref t2, .ref t3, .ref t4, .ref t5, .ref t6])) t6 = some (.tup [.ref lh, .ref l6]) := (same_new (o := (.lst [.ref t1, .ref t2, .ref t3, .ref t4, .ref t5, .ref t6])) hlb) _ _ (upd_same (H := (upd (upd (upd (upd (upd (upd (upd (upd (upd H4 t1 (.tup [.non, .ref lr])) t2 (.tup [.ref lh, .non])) t3 (.tup [.str "", .ref lr])) t4 (.tup [.ref lh, .int 7])) u5 (.tup [.int 0, .int 0])) l5 (.lst [.ref u5])) t5 (.tup [.ref l5, .ref lr])) u6 (.tup [.int 7, .int 0, .int 0])) l6 (.lst [.ref u6]))) (a := t6) (o := (.tup [.ref lh, .ref l6])))
    have f_lb : (upd (upd (upd (upd (upd (upd (upd (upd (upd (upd (upd H4 t1 (.tup [.non, .ref lr])) t2 (.tup [.ref lh, .non])) t3 (.tup [.str "", .ref lr])) t4 (.tup [.ref lh, .int 7])) u5 (.tup [.int 0, .int 0])) l5 (.lst [.ref u5])) t5 (.tup [.ref l5, .ref lr])) u6 (.tup [.int 7, .int 0, .int 0])) l6 (.lst [.ref u6])) t6 (.tup [.ref lh, .ref l6])) lb (.lst [.ref t1, .ref t2, .ref t3, .ref t4, .ref t5, .ref t6])) lb = some (.lst [.ref t1, .ref t2, .ref t3, .ref t4, .ref t5, .ref t6]) := upd_same
    clear ht1 ht2 ht3 ht4 hu5 hl5 ht5 hu6 hl6 ht6 hlb
    generalize (upd (upd (upd (upd (upd (upd (upd (upd (upd (upd (upd H4 t1 (.tup [.non, .ref lr])) t2 (.tup [.ref lh, .non])) t3 (.tup [.str "", .ref lr])) t4 (.tup [.ref lh, .int 7])) u5 (.tup [.int 0, .int 0])) l5 (.lst [.ref u5])) t5 (.tup [.ref l5, .ref lr])) u6 (.tup [.int 7, .int 0, .int 0])) l6 (.lst [.ref u6])) t6 (.tup [.ref lh, .ref l6])) lb (.lst [.ref t1, .ref t2, .ref t3, .ref t4, .ref t5, .ref t6])) = H5 at *
    have len3 : ∀ x ∈ hs, x.length ≤ 1000 := fun x hx => by rw [C.h3 x hx]; omega
    have len2 : ∀ x ∈ rs, x.length ≤ 1000 := fun x hx => by rw [C.r2 x hx]; omega
    have ah : ∀ {H' : Hp}, Same H4 H' → AnyL Z.K H' (hs.map fun x => some (x.map V.int)) (.ref lh) ∧ El Z.K H' (.ref lh) := fun S => ⟨(any_tups hlh4 th4 len3).same S, .inr (.inl ⟨lh, _, rfl, SqL.of (S _ _ hlh4)⟩)⟩
    have ar : ∀ {H' : Hp}, Same H4 H' → AnyL Z.K H' (rs.map fun x => some (x.map V.int)) (.ref lr) ∧ El Z.K H' (.ref lr) := fun S => ⟨(any_tups hlr4 tr4 len2).same S, .inr (.inl ⟨lr, _, rfl, SqL.of (S _ _ hlr4)⟩)⟩
    have lA : (hs.map fun x => some (x.map V.int)).length ≤ 100000 := by rw [List.length_map]; omega
    have lR : (rs.map fun x => some (x.map V.int)).length ≤ 100000 := by rw [List.length_map]; omega
    have bad : BadPs Z.K H5 [.ref t1, .ref t2, .ref t3, .ref t4, .ref t5, .ref t6] := by
      refine .cons f_t1 (.inl (.inl ⟨.inr (.inr (.inr (.inl rfl))), (ar S_H5).2⟩)) ?_
      refine .cons f_t2 (.inl (.inr (.inl ⟨(ah S_H5).2, .inr (.inr (.inr (.inl rfl)))⟩))) ?_
      refine .cons f_t3 (.inl (.inl ⟨.inr (.inr (.inl ⟨_, rfl⟩)), (ar S_H5).2⟩)) ?_
      refine .cons f_t4 (.inl (.inr (.inl ⟨(ah S_H5).2, .inl ⟨_, rfl⟩⟩))) ?_
      refine .cons f_t5 (.inl (.inr (.inr ⟨[some [.int 0, .int 0]], _, any_one f_l5 f_u5 (fun x hx => ?_) (by show 2 ≤ 1000; omega), (ar S_H5).1, by show 1 ≤ 100000; omega, lR, .inl rfl⟩))) ?_
      · simp only [List.mem_cons, List.not_mem_nil, or_false] at hx
        rcases hx with e | e <;> (rw [e]; exact El.int _)
      refine .cons f_t6 (.inl (.inr (.inr ⟨_, [some [.int 7, .int 0, .int 0]], (ah S_H5).1, any_one f_l6 f_u6 (fun x hx => ?_) (by show 3 ≤ 1000; omega), lA, by show 1 ≤ 100000; omega, .inr rfl⟩))) .nil
      simp only [List.mem_cons, List.not_mem_nil, or_false] at hx
      rcases hx with e | e | e <;> (rw [e]; exact El.int _)
    walk_at "zz"
    refine loop_list [.ref t1, .ref t2, .ref t3, .ref t4, .ref t5, .ref t6] (fun i σ' H' => Same H5 H' ∧ ∃ (x5 x6 x7 x8 x9 : Option V), σ' = [some (.ref a), some (.ref p), some (.ref lh), some (.ref lr), some (.ref l), x5, x6, x7, x8, x9]) ⟨Same.refl _, _, _, _, _, _, rfl⟩ (fun i σ' H' hi ⟨S, _⟩ => SqL.of (S _ _ f_lb)) ?_ ?_
    · rintro i v σ' H7 hv ⟨S7, x5, x6, x7, x8, x9, rfl⟩
      obtain ⟨t, x, y, rfl, ht, hb⟩ := bad v (List.mem_of_getElem? hv)
      have ht7 := S7 _ _ ht
      walk_at "zz"
      refine cl_Ltried ⟨3, rfl, .inr (.inr (.inl ⟨rfl, hb.same S7, fun H8 S8 => ?_⟩))⟩
      walk_at "zz"
      refine s_nft rfl ?_
      walk_at "zz"
      exact ⟨S7.trans S8, _, _, _, _, _, rfl⟩
    rintro σ' H6 ⟨S6, x5, x6, x7, x8, x9, rfl⟩
    have S46 := S_H5.trans S6
    clear bad f_t1 f_t2 f_t3 f_t4 f_t5 f_t6 f_u5 f_u6 f_l5 f_l6 f_lb S_H5 S6
    walk_at "zz"
    intro v1 hv1
    walk_at "zz"
    intro w1 hw1
    walk_at "zz"
    intro v2 hv2
    walk_at "zz"
    intro w2 hw2
    walk_at "zz"
    intro u3 hu3
    walk_at "zz"
    intro v3 hv3
    walk_at "zz"
    intro w3 hw3
    walk_at "zz"
    intro u4 hu4
    walk_at "zz"
    intro v4 hv4
    walk_at "zz"
    intro w4 hw4
    walk_at "zz"
    intro d5 hd5
    walk_at "zz"
    intro d6 hd6
    walk_at "zz"
    intro w5 hw5
    walk_at "zz"
    intro lc hlc
    have S_H8 : Same H6 (upd (upd (upd (upd (upd (upd (upd (upd (upd (upd (upd (upd (upd (upd H6 v1 (.lst [.non])) w1 (.tup [.ref v1, .ref lr])) v2 (.lst [.str "70"])) w2 (.tup [.ref lh, .ref v2])) u3 (.tup [.int 0, .int 0, .bl true])) v3 (.lst [.ref u3])) w3 (.tup [.ref v3, .ref lr])) u4 (.tup [.int 0, .non])) v4 (.lst [.ref u4])) w4 (.tup [.ref lh, .ref v4])) d5 (.dK [])) d6 (.dK [])) w5 (.tup [.ref d5, .ref d6])) lc (.lst [.ref w1, .ref w2, .ref w3, .ref w4, .ref w5])) := ((((((((((((((same_new (o := (.lst [.non])) hv1).trans (same_new (o := (.tup [.ref v1, .ref lr])) hw1)).trans (same_new (o := (.lst [.str "70"])) hv2)).trans (same_new (o := (.tup [.ref lh, .ref v2])) hw2)).trans (same_new (o := (.tup [.int 0, .int 0, .bl true])) hu3)).trans (same_new (o := (.lst [.ref u3])) hv3)).trans (same_new (o := (.tup [.ref v3, .ref lr])) hw3)).trans (same_new (o := (.tup [.int 0, .non])) hu4)).trans (same_new (o := (.lst [.ref u4])) hv4)).trans (same_new (o := (.tup [.ref lh, .ref v4])) hw4)).trans (same_new (o := (.dK [])) hd5)).trans (same_new (o := (.dK [])) hd6)).trans (same_new (o := (.tup [.ref d5, .ref d6])) hw5)).trans (same_new (o := (.lst [.ref w1, .ref w2, .ref w3, .ref w4, .ref w5])) hlc))
    have f_v1 : (upd (upd (upd (upd (upd (upd (upd (upd (upd (upd (upd (upd (upd (upd H6 v1 (.lst [.non])) w1 (.tup [.ref v1, .ref lr])) v2 (.lst [.str "70"])) w2 (.tup [.ref lh, .ref v2])) u3 (.tup [.int 0, .int 0, .bl true])) v3 (.lst [.ref u3])) w3 (.tup [.ref v3, .ref lr])) u4 (.tup [.int 0, .non])) v4 (.lst [.ref u4])) w4 (.tup [.ref lh, .ref v4])) d5 (.dK [])) d6 (.dK [])) w5 (.tup [.ref d5, .ref d6])) lc (.lst [.ref w1, .ref w2, .ref w3, .ref w4, .ref w5])) v1 = some (.lst [.non]) := (((((((((((((same_new (o := (.tup [.ref v1, .ref lr])) hw1).trans (same_new (o := (.lst [.str "70"])) hv2)).trans (same_new (o := (.tup [.ref lh, .ref v2])) hw2)).trans (same_new (o := (.tup [.int 0, .int 0, .bl true])) hu3)).trans (same_new (o := (.lst [.ref u3])) hv3)).trans (same_new (o := (.tup [.ref v3, .ref lr])) hw3)).trans (same_new (o := (.tup [.int 0, .non])) hu4)).trans (same_new (o := (.lst [.ref u4])) hv4)).trans (same_new (o := (.tup [.ref lh, .ref v4])) hw4)).trans (same_new (o := (.dK [])) hd5)).trans (same_new (o := (.dK [])) hd6)).trans (same_new (o := (.tup [.ref d5, .ref d6])) hw5)).trans (same_new (o := (.lst [.ref w1, .ref w2, .ref w3, .ref w4, .ref w5])) hlc)) _ _ (upd_same (H := H6) (a := v1) (o := (.lst [.non])))
    have f_w1 : (upd (upd (upd (upd (upd (upd (upd (upd (upd (upd (upd (upd (upd (upd H6 v1 (.lst [.non])) w1 (.tup [.ref v1, .ref lr])) v2 (.lst [.str "70"])) w2 (.tup [.ref lh, .ref v2])) u3 (.tup [.int 0, .int 0, .bl true])) v3 (.lst [.ref u3])) w3 (.tup [.ref v3, .ref lr])) u4 (.tup [.int 0, .non])) v4 (.lst [.ref u4])) w4 (.tup [.ref lh, .ref v4])) d5 (.dK [])) d6 (.dK [])) w5 (.tup [.ref d5, .ref d6])) lc (.lst [.ref w1, .ref w2, .ref w3, .ref w4, .ref w5])) w1 = some (.tup [.ref v1, .ref lr]) := ((((((((((((same_new (o := (.lst [.str "70"])) hv2).trans (same_new (o := (.tup [.ref lh, .ref v2])) hw2)).trans (same_new (o := (.tup [.int 0, .int 0, .bl true])) hu3)).trans (same_new (o := (.lst [.ref u3])) hv3)).trans (same_new (o := (.tup [.ref v3, .ref lr])) hw3)).trans (same_new (o := (.tup [.int 0, .non])) hu4)).trans (same_new (o := (.lst [.ref u4])) hv4)).trans (same_new (o := (.tup [.ref lh, .ref v4])) hw4)).trans (same_new (o := (.dK [])) hd5)).trans (same_new (o := (.dK [])) hd6)).trans (same_new (o := (.tup [.ref d5, .ref d6])) hw5)).trans (same_new (o := (.lst [.ref w1, .ref w2, .ref w3, .ref w4, .ref w5])) hlc)) _ _ (upd_same (H := (upd H6 v1 (.lst [.non]))) (a := w1) (o := (.tup [.ref v1, .ref lr])))
    have f_v2 : (upd (upd (upd (upd (upd (upd (upd (upd (upd (upd (upd (upd (upd (upd H6 v1 (.lst [.non])) w1 (.tup [.ref v1, .ref lr])) v2 (.lst [.str "70"])) w2 (.tup [.ref lh, .ref v2])) u3 (.tup [.int 0, .int 0, .bl true])) v3 (.lst [.ref u3])) w3 (.tup [.ref v3, .ref lr])) u4 (.tup [.int 0, .non])) v4 (.lst [.ref u4])) w4 (.tup [.ref lh, .ref v4])) d5 (.dK [])) d6 (.dK [])) w5 (.tup [.ref d5, .ref d6])) lc (.lst [.ref w1, .ref w2, .ref w3, .ref w4, .ref w5])) v2 = some (.lst [.str "70"]) := (((((((((((same_new (o := (.tup [.ref lh, .ref v2])) hw2).trans (same_new (o := (.tup [.int 0, .int 0, .bl true])) hu3)).trans (same_new (o := (.lst [.ref u3])) hv3)).trans (same_new (o := (.tup [.ref v3, .ref lr])) hw3)).trans (same_new (o := (.tup [.int 0, .non])) hu4)).trans (same_new (o := (.lst [.ref u4])) hv4)).trans (same_new (o := (.tup [.ref lh, .ref v4])) hw4)).trans (same_new (o := (.dK [])) hd5)).trans (same_new (o := (.dK [])) hd6)).trans (same_new (o := (.tup [.ref d5, .ref d6])) hw5)).trans (same_new (o := (.lst [.ref w1, .ref w2, .ref w3, .ref w4, .ref w5])) hlc)) _ _ (upd_same (H := (upd (upd H6 v1 (.lst [.non])) w1 (.tup [.ref v1, .ref lr]))) (a := v2) (o := (.lst [.str "70"])))
    have f_w2 : (upd (upd (upd (upd (upd (upd (upd (upd (upd (upd (upd (upd (upd (upd H6 v1 (.lst [.non])) w1 (.tup [.ref v1, .ref lr])) v2 (.lst [.str "70"])) w2 (.tup [.ref lh, .ref v2])) u3 (.tup [.int 0, .int 0, .bl true])) v3 (.lst [.ref u3])) w3 (.tup [.ref v3, .ref lr])) u4 (.tup [.int 0, .non])) v4 (.lst [.ref u4])) w4 (.tup [.ref lh, .ref v4])) d5 (.dK [])) d6 (.dK [])) w5 (.tup [.ref d5, .ref d6])) lc (.lst [.ref w1, .ref w2, .ref w3, .ref w4, .ref w5])) w2 = some (.tup [.ref lh, .ref v2]) := ((((((((((same_new (o := (.tup [.int 0, .int 0, .bl true])) hu3).trans (same_new (o := (.lst [.ref u3])) hv3)).trans (same_new (o := (.tup [.ref v3, .ref lr])) hw3)).trans (same_new (o := (.tup [.int 0, .non])) hu4)).trans (same_new (o := (.lst [.ref u4])) hv4)).trans (same_new (o := (.tup [.ref lh, .ref v4])) hw4)).trans (same_new (o := (.dK [])) hd5)).trans (same_new (o := (.dK [])) hd6)).trans (same_new (o := (.tup [.ref d5, .ref d6])) hw5)).trans (same_new (o := (.lst [.ref w1, .ref w2, .ref w3, .ref w4, .ref w5])) hlc)) _ _ (upd_same (H := (upd (upd (upd H6 v1 (.lst [.non])) w1 (.tup [.ref v1, .ref lr])) v2 (.lst [.str "70"]))) (a := w2) (o := (.tup [.ref lh, .ref v2])))
    have f_u3 : (upd (upd (upd (upd (upd (upd (upd (upd (upd (upd (upd (upd (upd (upd H6 v1 (.lst [.non])) w1 (.tup [.ref v1, .ref lr])) v2 (.lst [.str "70"])) w2 (.tup [.ref lh, .ref v2])) u3 (.tup [.int 0, .int 0, .bl true])) v3 (.lst [.ref u3])) w3 (.tup [.ref v3, .ref lr])) u4 (.tup [.int 0, .non])) v4 (.lst [.ref u4])) w4 (.tup [.ref lh, .ref v4])) d5 (.dK [])) d6 (.dK [])) w5 (.tup [.ref d5, .ref d6])) lc (.lst [.ref w1, .ref w2, .ref w3, .ref w4, .ref w5])) u3 = some (.tup [.int 0, .int 0, .bl true]) := (((((((((same_new (o := (.lst [.ref u3])) hv3).trans (same_new (o := (.tup [.ref v3, .ref lr])) hw3)).trans (same_new (o := (.tup [.int 0, .non])) hu4)).trans (same_new (o := (.lst [.ref u4])) hv4)).trans (same_new (o := (.tup [.ref lh, .ref v4])) hw4)).trans (same_new (o := (.dK [])) hd5)).trans (same_new (o := (.dK [])) hd6)).trans (same_new (o := (.tup [.ref d5, .ref d6])) hw5)).trans (same_new (o := (.lst [.ref w1, .ref w2, .ref w3, .ref w4, .ref w5])) hlc)) _ _ (upd_same (H := (upd (upd (upd (upd H6 v1 (.lst [.non])) w1 (.tup [.ref v1, .ref lr])) v2 (.lst [.str "70"])) w2 (.tup [.ref lh, .ref v2]))) (a := u3) (o := (.tup [.int 0, .int 0, .bl true])))
    have f_v3 : (upd (upd (upd (upd (upd (upd (upd (upd (upd (upd (upd (upd (upd (upd H6 v1 (.lst [.non])) w1 (.tup [.ref v1, .ref lr])) v2 (.lst [.str "70"])) w2 (.tup [.ref lh, .ref v2])) u3 (.tup [.int 0, .int 0, .bl true])) v3 (.lst [.ref u3])) w3 (.tup [.ref v3, .ref lr])) u4 (.tup [.int 0, .non])) v4 (.lst [.ref u4])) w4 (.tup [.ref lh, .ref v4])) d5 (.dK [])) d6 (.dK [])) w5 (.tup [.ref d5, .ref d6])) lc (.lst [.ref w1, .ref w2, .ref w3, .ref w4, .ref w5])) v3 = some (.lst [.ref u3]) := ((((((((same_new (o := (.tup [.ref v3, .ref lr])) hw3).trans (same_new (o := (.tup [.int 0, .non])) hu4)).trans (same_new (o := (.lst [.ref u4])) hv4)).trans (same_new (o := (.tup [.ref lh, .ref v4])) hw4)).trans (same_new (o := (.dK [])) hd5)).trans (same_new (o := (.dK [])) hd6)).trans (same_new (o := (.tup [.ref d5, .ref d6])) hw5)).trans (same_new (o := (.lst [.ref w1, .ref w2, .ref w3, .ref w4, .ref w5])) hlc)) _ _ (upd_same (H := (upd (upd (upd (upd (upd H6 v1 (.lst [.non])) w1 (.tup [.ref v1, .ref lr])) v2 (.lst [.str "70"])) w2 (.tup [.ref lh, .ref v2])) u3 (.tup [.int 0, .int 0, .bl true]))) (a := v3) (o := (.lst [.ref u3])))
    have f_w3 : (upd (upd (upd (upd (upd (upd (upd (upd (upd (upd (upd (upd (upd (upd H6 v1 (.lst [.non])) w1 (.tup [.ref v1, .ref lr])) v2 (.lst [.str "70"])) w2 (.tup [.ref lh, .ref v2])) u3 (.tup [.int 0, .int 0, .bl true])) v3 (.lst [.ref u3])) w3 (.tup [.ref v3, .ref lr])) u4 (.tup [.int 0, .non])) v4 (.lst [.ref u4])) w4 (.tup [.ref lh, .ref v4])) d5 (.dK [])) d6 (.dK [])) w5 (.tup [.ref d5, .ref d6])) lc (.lst [.ref w1, .ref w2, .ref w3, .ref w4, .ref w5])) w3 = some (.tup [.ref v3, .ref lr]) := (((((((same_new (o := (.tup [.int 0, .non])) hu4).trans (same_new (o := (.lst [.ref u4])) hv4)).trans (same_new (o := (.tup [.ref lh, .ref v4])) hw4)).trans (same_new (o := (.dK [])) hd5)).trans (same_new (o := (.dK [])) hd6)).trans (same_new (o := (.tup [.ref d5, .ref d6])) hw5)).trans (same_new (o := (.lst [.ref w1, .ref w2, .ref w3, .ref w4, .ref w5])) hlc)) _ _ (upd_same (H := (upd (upd (upd (upd (upd (upd H6 v1 (.lst [.non])) w1 (.tup [.ref v1, .ref lr])) v2 (.lst [.str "70"])) w2 (.tup [.ref lh, .ref v2])) u3 (.tup [.int 0, .int 0, .bl true])) v3 (.lst [.ref u3]))) (a := w3) (o := (.tup [.ref v3, .ref lr])))
    have f_u4 : (upd (upd (upd (upd (upd (upd (upd (upd (upd (upd (upd (upd (upd (upd H6 v1 (.lst [.non])) w1 (.tup [.ref v1, .ref lr])) v2 (.lst [.str "70"])) w2 (.tup [.ref lh, .ref v2])) u3 (.tup [.int 0, .int 0, .bl true])) v3 (.lst [.ref u3])) w3 (.tup [.ref v3, .ref lr])) u4 (.tup [.int 0, .non])) v4 (.lst [.ref u4])) w4 (.tup [.ref lh, .ref v4])) d5 (.dK [])) d6 (.dK [])) w5 (.tup [.ref d5, .ref d6])) lc (.lst [.ref w1, .ref w2, .ref w3, .ref w4, .ref w5])) u4 = some (.tup [.int 0, .non]) := ((((((same_new (o := (.lst [.ref u4])) hv4).trans (same_new (o := (.tup [.ref lh, .ref v4])) hw4)).trans (same_new (o := (.dK [])) hd5)).trans (same_new (o := (.dK [])) hd6)).trans (same_new (o := (.tup [.ref d5, .ref d6])) hw5)).trans (same_new (o := (.lst [.ref w1, .ref w2, .ref w3, .ref w4, .ref w5])) hlc)) _ _ (upd_same (H := (upd (upd (upd (upd (upd (upd (upd H6 v1 (.lst [.non])) w1 (.tup [.ref v1, .ref lr])) v2 (.lst [.str "70"])) w2 (.tup [.ref lh, .ref v2])) u3 (.tup [.int 0, .int 0, .bl true])) v3 (.lst [.ref u3])) w3 (.tup [.ref v3, .ref lr]))) (a := u4) (o := (.tup [.int 0, .non])))
    have f_v4 : (upd (upd (upd (upd (upd (upd (upd (upd (upd (upd (upd (upd (upd (upd H6 v1 (.lst [.non])) w1 (.tup [.ref v1, .ref lr])) v2 (.lst [.str "70"])) w2 (.tup [.ref lh, .ref v2])) u3 (.tup [.int 0, .int 0, .bl true])) v3 (.lst [.ref u3])) w3 (.tup [.ref v3, .ref lr])) u4 (.tup [.int 0, .non])) v4 (.lst [.ref u4])) w4 (.tup [.ref lh, .ref v4])) d5 (.dK [])) d6 (.dK [])) w5 (.tup [.ref d5, .ref d6])) lc (.lst [.ref w1, .ref w2, .ref w3, .ref w4, .ref w5])) v4 = some (.lst [.ref u4]) := (((((same_new (o := (.tup [.ref lh, .ref v4])) hw4).trans (same_new (o := (.dK [])) hd5)).trans (same_new (o := (.dK [])) hd6)).trans (same_new (o := (.tup [.ref d5, .ref d6])) hw5)).trans (same_new (o := (.lst [.ref w1, .ref w2, .ref w3, .ref w4, .ref w5])) hlc)) _ _ (upd_same (H := (upd (upd (upd (upd (upd (upd (upd (upd H6 v1 (.lst [.non])) w1 (.tup [.ref v1, .ref lr])) v2 (.lst [.str "70"])) w2 (.tup [.ref lh, .ref v2])) u3 (.tup [.int 0, .int 0, .bl true])) v3 (.lst [.ref u3])) w3 (.tup [.ref v3, .ref lr])) u4 (.tup [.int 0, .non]))) (a := v4) (o := (.lst [.ref u4])))
    have f_w4 : (upd (upd (upd (upd (upd (upd (upd (upd (upd (upd (upd (upd (upd (upd H6 v1 (.lst [.non])) w1 (.tup [.ref v1, .ref lr])) v2 (.lst [.str "70"])) w2 (.tup [.ref lh, .ref v2])) u3 (.tup [.int 0, .int 0, .bl true])) v3 (.lst [.ref u3])) w3 (.tup [.ref v3, .ref lr])) u4 (.tup [.int 0, .non])) v4 (.lst [.ref u4])) w4 (.tup [.ref lh, .ref v4])) d5 (.dK [])) d6 (.dK [])) w5 (.tup [.ref d5, .ref d6])) lc (.lst [.ref w1, .ref w2, .ref w3, .ref w4, .ref w5])) w4 = some (.tup [.ref lh, .ref v4]) := ((((same_new (o := (.dK [])) hd5).trans (same_new (o := (.dK [])) hd6)).trans (same_new (o := (.tup [.ref d5, .ref d6])) hw5)).trans (same_new (o := (.lst [.ref w1, .ref w2, .ref w3, .ref w4, .ref w5])) hlc)) _ _ (upd_same (H := (upd (upd (upd (upd (upd (upd (upd (upd (upd H6 v1 (.lst [.non])) w1 (.tup [.ref v1, .ref lr])) v2 (.lst [.str "70"])) w2 (.tup [.ref lh, .ref v2])) u3 (.tup [.int 0, .int 0, .bl true])) v3 (.lst [.ref u3])) w3 (.tup [.ref v3, .ref lr])) u4 (.tup [.int 0, .non])) v4 (.lst [.ref u4]))) (a := w4) (o := (.tup [.ref lh, .ref v4])))
    have f_d5 : (upd (upd (upd (upd (upd (upd (upd (upd (upd (upd (upd (upd (upd (upd H6 v1 (.lst [.non])) w1 (.tup [.ref v1, .ref lr])) v2 (.lst [.str "70"])) w2 (.tup [.ref lh, .ref v2])) u3 (.tup [.int 0, .int 0, .bl true])) v3 (.lst [.ref u3])) w3 (.tup [.ref v3, .ref lr])) u4 (.tup [.int 0, .non])) v4 (.lst [.ref u4])) w4 (.tup [.ref lh, .ref v4])) d5 (.dK [])) d6 (.dK [])) w5 (.tup [.ref d5, .ref d6])) lc (.lst [.ref w1, .ref w2, .ref w3, .ref w4, .ref w5])) d5 = some (.dK []) := (((same_new (o := (.dK [])) hd6).trans (same_new (o := (.tup [.ref d5, .ref d6])) hw5)).trans (same_new (o := (.lst [.ref w1, .ref w2, .ref w3, .ref w4, .ref w5])) hlc)) _ _ (upd_same (H := (upd (upd (upd (upd (upd (upd (upd (upd (upd (upd H6 v1 (.lst [.non])) w1 (.tup [.ref v1, .ref lr])) v2 (.lst [.str "70"])) w2 (.tup [.ref lh, .ref v2])) u3 (.tup [.int 0, .int 0, .bl true])) v3 (.lst [.ref u3])) w3 (.tup [.ref v3, .ref lr])) u4 (.tup [.int 0, .non])) v4 (.lst [.ref u4])) w4 (.tup [.ref lh, .ref v4]))) (a := d5) (o := (.dK [])))
    have f_d6 : (upd (upd (upd (upd (upd (upd (upd (upd (upd (upd (upd (upd (upd (upd H6 v1 (.lst [.non])) w1 (.tup [.ref v1, .ref lr])) v2 (.lst [.str "70"])) w2 (.tup [.ref lh, .ref v2])) u3 (.tup [.int 0, .int 0, .bl true])) v3 (.lst [.ref u3])) w3 (.tup [.ref v3, .ref lr])) u4 (.tup [.int 0, .non])) v4 (.lst [.ref u4])) w4 (.tup [.ref lh, .ref v4])) d5 (.dK [])) d6 (.dK [])) w5 (.tup [.ref d5, .ref d6])) lc (.lst [.ref w1, .ref w2, .ref w3, .ref w4, .ref w5])) d6 = some (.dK []) := ((same_new (o := (.tup [.ref d5, .ref d6])) hw5).trans (same_new (o := (.lst [.ref w1, .ref w2, .ref w3, .ref w4, .ref w5])) hlc)) _ _ (upd_same (H := (upd (upd (upd (upd (upd (upd (upd (upd (upd (upd (upd H6 v1 (.lst [.non])) w1 (.tup [.ref v1, .ref lr])) v2 (.lst [.str "70"])) w2 (.tup [.ref lh, .ref v2])) u3 (.tup [.int 0, .int 0, .bl true])) v3 (.lst [.ref u3])) w3 (.tup [.ref v3, .ref lr])) u4 (.tup [.int 0, .non])) v4 (.lst [.ref u4])) w4 (.tup [.ref lh, .ref v4])) d5 (.dK []))) (a := d6) (o := (.dK [])))
    have f_w5 : (upd (upd (upd (upd (upd (upd (upd (upd (upd (upd (upd (upd (upd (upd H6 v1 (.lst [.non])) w1 (.tup [.ref v1, .ref lr])) v2 (.lst [.str "70"])) w2 (.tup [.ref lh, .ref v2])) u3 (.tup [.int 0, .int 0, .bl true])) v3 (.lst [.ref u3])) w3 (.tup [.ref v3, .ref lr])) u4 (.tup [.int 0, .non])) v4 (.lst [.ref u4])) w4 (.tup [.ref lh, .ref v4])) d5 (.dK [])) d6 (.dK [])) w5 (.tup [.ref d5, .ref d6])) lc (.lst [.ref w1, .ref w2, .ref w3, .ref w4, .ref w5])) w5 = some (.tup [.ref d5, .ref d6]) := (same_new (o := (.lst [.ref w1, .ref w2, .ref w3, .ref w4, .ref w5])) hlc) _ _ (upd_same (H := (upd (upd (upd (upd (upd (upd (upd (upd (upd (upd (upd (upd H6 v1 (.lst [.non])) w1 (.tup [.ref v1, .ref lr])) v2 (.lst [.str "70"])) w2 (.tup [.ref lh, .ref v2])) u3 (.tup [.int 0, .int 0, .bl true])) v3 (.lst [.ref u3])) w3 (.tup [.ref v3, .ref lr])) u4 (.tup [.int 0, .non])) v4 (.lst [.ref u4])) w4 (.tup [.ref lh, .ref v4])) d5 (.dK [])) d6 (.dK []))) (a := w5) (o := (.tup [.ref d5, .ref d6])))
    have f_lc : (upd (upd (upd (upd (upd (upd (upd (upd (upd (upd (upd (upd (upd (upd H6 v1 (.lst [.non])) w1 (.tup [.ref v1, .ref lr])) v2 (.lst [.str "70"])) w2 (.tup [.ref lh, .ref v2])) u3 (.tup [.int 0, .int 0, .bl true])) v3 (.lst [.ref u3])) w3 (.tup [.ref v3, .ref lr])) u4 (.tup [.int 0, .non])) v4 (.lst [.ref u4])) w4 (.tup [.ref lh, .ref v4])) d5 (.dK [])) d6 (.dK [])) w5 (.tup [.ref d5, .ref d6])) lc (.lst [.ref w1, .ref w2, .ref w3, .ref w4, .ref w5])) lc = some (.lst [.ref w1, .ref w2, .ref w3, .ref w4, .ref w5]) := upd_same
    clear hv1 hw1 hv2 hw2 hu3 hv3 hw3 hu4 hv4 hw4 hd5 hd6 hw5 hlc
    generalize (upd (upd (upd (upd (upd (upd (upd (upd (upd (upd (upd (upd (upd (upd H6 v1 (.lst [.non])) w1 (.tup [.ref v1, .ref lr])) v2 (.lst [.str "70"])) w2 (.tup [.ref lh, .ref v2])) u3 (.tup [.int 0, .int 0, .bl true])) v3 (.lst [.ref u3])) w3 (.tup [.ref v3, .ref lr])) u4 (.tup [.int 0, .non])) v4 (.lst [.ref u4])) w4 (.tup [.ref lh, .ref v4])) d5 (.dK [])) d6 (.dK [])) w5 (.tup [.ref d5, .ref d6])) lc (.lst [.ref w1, .ref w2, .ref w3, .ref w4, .ref w5])) = H8 at *
    have S48 := S46.trans S_H8
    have bad : BadPs Z.K H8 [.ref w1, .ref w2, .ref w3, .ref w4, .ref w5] := by
      refine .cons f_w1 (.inl (.inr (.inr ⟨[none], _, any_no f_v1 (.inr (.inr (.inr (.inl rfl)))), (ar S48).1, by show 1 ≤ 100000; omega, lR, .inl rfl⟩))) ?_
      refine .cons f_w2 (.inl (.inr (.inr ⟨_, [none], (ah S48).1, any_no f_v2 (.inr (.inr (.inl ⟨_, rfl⟩))), lA, by show 1 ≤ 100000; omega, .inr rfl⟩))) ?_
      refine .cons f_w3 (.inl (.inr (.inr ⟨[some [.int 0, .int 0, .bl true]], _, any_one f_v3 f_u3 (fun x hx => ?_) (by show 3 ≤ 1000; omega), (ar S48).1, by show 1 ≤ 100000; omega, lR, .inl rfl⟩))) ?_
      · simp only [List.mem_cons, List.not_mem_nil, or_false] at hx
        rcases hx with e | e | e
        · rw [e]; exact El.int _
        · rw [e]; exact El.int _
        · rw [e]; exact .inl (.inr (.inl ⟨_, rfl⟩))
      refine .cons f_w4 (.inl (.inr (.inr ⟨_, [some [.int 0, .non]], (ah S48).1, any_one f_v4 f_u4 (fun x hx => ?_) (by show 2 ≤ 1000; omega), lA, by show 1 ≤ 100000; omega, .inr rfl⟩))) ?_
      · simp only [List.mem_cons, List.not_mem_nil, or_false] at hx
        rcases hx with e | e
        · rw [e]; exact El.int _
        · rw [e]; exact .inl (.inr (.inr (.inr (.inl rfl))))
      exact .cons f_w5 (.inl (.inl ⟨.inr (.inr (.inr (.inr ⟨d5, [], rfl, f_d5⟩))), .inl (.inr (.inr (.inr (.inr ⟨d6, [], rfl, f_d6⟩))))⟩)) .nil
    walk_at "zz"
    refine loop_list [.ref w1, .ref w2, .ref w3, .ref w4, .ref w5] (fun i σ' H' => Same H8 H' ∧ ∃ (x5 x6 x7 x8 x9 : Option V), σ' = [some (.ref a), some (.ref p), some (.ref lh), some (.ref lr), some (.ref l), x5, x6, x7, x8, x9]) ⟨Same.refl _, _, _, _, _, _, rfl⟩ (fun i σ' H' hi ⟨S, _⟩ => SqL.of (S _ _ f_lc)) ?_ ?_
    · rintro i v σ' H9 hv ⟨S7, x5, x6, x7, x8, x9, rfl⟩
      obtain ⟨t, x, y, rfl, ht, hb⟩ := bad v (List.mem_of_getElem? hv)
      have ht7 := S7 _ _ ht
      walk_at "zz"
      refine cl_Ltried ⟨3, rfl, .inr (.inr (.inl ⟨rfl, hb.same S7, fun H10 S8 => ?_⟩))⟩
      walk_at "zz"
      refine s_nft rfl ?_
      walk_at "zz"
      exact ⟨S7.trans S8, _, _, _, _, _, rfl⟩
    rintro σ' H9 ⟨S9, x5, x6, x7, x8, x9, rfl⟩
    have S49 := S48.trans S9
    have lenx := codeL_len C
    walk_at "zz"
    refine cl_is_code (.inl ⟨l, _, rfl, SqL.of (S49 _ _ hl4), by omega, ⟨hs, rs, C, rfl⟩, fun H10 S10 => ?_⟩)
    have S410 := S49.trans S10
    walk_at "zz"
    refine s_ifdt rfl ?_
    walk_at "zz"
    refine cl_Ltried ⟨3, rfl, .inl ⟨hs, rs, rfl, ⟨lh, vh, rfl, .inl (SqL.of (S410 _ _ hlh4)), (th4.mono (TupS.of S410)).imp fun _ _ _ z => z.seq⟩, ⟨lr, vr, rfl, .inl (SqL.of (S410 _ _ hlr4)), (tr4.mono (TupS.of S410)).imp fun _ _ _ z => z.seq⟩, C, hr24, fun H11 S11 => ?_⟩⟩
    have S411 := S410.trans S11
    walk_at "zz"
    refine s_ifdt rfl ?_
    walk_at "zz"
    refine cl_Ltried ⟨2, rfl, .inr (.inl ⟨l, hs, rs, rfl, rfl, SqL.of (S411 _ _ hl4), CF, hr24, fun H12 S12 => ?_⟩)⟩
    walk_at "zz"
    exact q _

theorem sc_is_whole : FnScope nm_is_whole ["thing"] (defScope st_is_whole) := ⟨rfl, rfl, rfl, by decide +kernel, rfl, by decide +kernel, by decide +kernel⟩
theorem ok_is_whole {P : Program} {w : World} {base : Heap} {Z : Adr} (T : Top Z)  : FnOk P w Z.K Z.mg base (L2.CX P w) 1 Z.f_is_whole Z.d_is_whole ["thing"] (sp_is_whole Z) := by
  refine FnOk.mono (T.F_is_whole.okX (k := 0) sc_is_whole (fun vs H Q E h => ?_) (fun cdv A outer s H vs Q E hr h => ?_)) (by decide)
  · obtain ⟨a0, rfl, _⟩ := h; rfl
  · obtain ⟨a0, rfl, h⟩ := h
    have tk : Takes (cxOf (L2.CX P w) P w Z.K Z.mg base nm_is_whole "is_whole" (defScope st_is_whole) Z.f_is_whole cdv A outer s H E) (fun cls d _ H => E cls d H) := takes_of rfl rfl rfl rfl
    have po : PassesOwn (model P w) (cxOf (L2.CX P w) P w Z.K Z.mg base nm_is_whole "is_whole" (defScope st_is_whole) Z.f_is_whole cdv A outer s H E).A (cxOf (L2.CX P w) P w Z.K Z.mg base nm_is_whole "is_whole" (defScope st_is_whole) Z.f_is_whole cdv A outer s H E).env (cxOf (L2.CX P w) P w Z.K Z.mg base nm_is_whole "is_whole" (defScope st_is_whole) Z.f_is_whole cdv A outer s H E).xe := passes_of rfl
    refine ⟨t_is_whole Z (fun cls d _ H => E cls d H), ?_, rd_is_whole T h⟩
    exact (pss_one (ps_ret (pe_and (pe_callB call_isi' (by rfl) T.n_isinstance (by decide +kernel) (pa_cons (pv 0) (pa_cons (pe_bltn (by rfl) T.n_int (by decide +kernel) rfl) pa_nil))) (pe_one (pe_not (pe_callB call_isi' (by rfl) T.n_isinstance (by decide +kernel) (pa_cons (pv 0) (pa_cons (pe_bltn (by rfl) T.n_bool (by decide +kernel) rfl) pa_nil))))))))

theorem sc_are_wholes : FnScope nm_are_wholes ["things", "many"] (defScope st_are_wholes) := ⟨rfl, rfl, rfl, by decide +kernel, rfl, by decide +kernel, by decide +kernel⟩
theorem ok_are_wholes {P : Program} {w : World} {base : Heap} {Z : Adr} (T : Top Z) (G_is_whole : FnOk P w Z.K Z.mg base (L2.CX P w) 1 Z.f_is_whole Z.d_is_whole ["thing"] (sp_is_whole Z)) : FnOk P w Z.K Z.mg base (L2.CX P w) 2 Z.f_are_wholes Z.d_are_wholes ["things", "many"] (sp_are_wholes Z) := by
  refine FnOk.mono (T.F_are_wholes.okX (k := 1) sc_are_wholes (fun vs H Q E h => ?_) (fun cdv A outer s H vs Q E hr h => ?_)) (by decide)
  · obtain ⟨a0, a1, rfl, _⟩ := h; rfl
  · obtain ⟨a0, a1, rfl, h⟩ := h
    have tk : Takes (cxOf (L2.CX P w) P w Z.K Z.mg base nm_are_wholes "are_wholes" (defScope st_are_wholes) Z.f_are_wholes cdv A outer s H E) (fun cls d _ H => E cls d H) := takes_of rfl rfl rfl rfl
    have po : PassesOwn (model P w) (cxOf (L2.CX P w) P w Z.K Z.mg base nm_are_wholes "are_wholes" (defScope st_are_wholes) Z.f_are_wholes cdv A outer s H E).A (cxOf (L2.CX P w) P w Z.K Z.mg base nm_are_wholes "are_wholes" (defScope st_are_wholes) Z.f_are_wholes cdv A outer s H E).env (cxOf (L2.CX P w) P w Z.K Z.mg base nm_are_wholes "are_wholes" (defScope st_are_wholes) Z.f_are_wholes cdv A outer s H E).xe := passes_of rfl
    refine ⟨t_are_wholes Z (fun cls d _ H => E cls d H), ?_, rd_are_wholes T h⟩
    exact (pss_cons (ps_if (PW.pt (pw_or (pt_not (pt_val (pe_callB call_isi' (by rfl) T.n_isinstance (by decide +kernel) (pa_cons (pv 0) (pa_cons (pe_tup (pa_cons (pe_bltn (by rfl) T.n_list (by decide +kernel) rfl) (pa_cons (pe_bltn (by rfl) T.n_tuple (by decide +kernel) rfl) pa_nil))) pa_nil))))) (pw_or1 (pt_cmpR (op_neU (hr.units)) (pe_callB call_len' (by rfl) T.n_len (by decide +kernel) (pa_cons (pv 0) pa_nil)) (pv 1) (nomark _))))) (pss_one (ps_ret pe_bl)) pss_nil)
      (pss_one (ps_ret (pe_callB (cr_all rfl) (by rfl) T.n_all (by decide +kernel) (pa_cons (pe_lc (own := [(".0", 2), ("thing", 3)]) (g := (gName 3)) (tt := tYes) rfl sc_are_wholes.nd (pi_un (pv 0)) (blkOk_by (own := [(".0", 2), ("thing", 3)]) (N := nm_are_wholes) (sc := defScope st_are_wholes) (by decide +kernel)) (fun _ _ _ _ _ => (pg_name (i := 3) sc_are_wholes.nd rfl (Or.inl rfl))) (fun _ _ _ _ _ => pts_nil) (fun _ _ _ _ _ => (pe_callS G_is_whole (hr.mono (by decide)) rfl T.m_is_whole T.k_is_whole T.b_is_whole passC (pa_cons (pv 3) pa_nil)))) pa_nil)))))

theorem sc_fits_op : FnScope nm_fits_op ["op", "number", "functions", "rows"] (defScope st_fits_op) := ⟨rfl, rfl, rfl, by decide +kernel, rfl, by decide +kernel, by decide +kernel⟩
theorem ok_fits_op {P : Program} {w : World} {base : Heap} {Z : Adr} (T : Top Z)  : FnOk P w Z.K Z.mg base (L2.CX P w) 1 Z.f_fits_op Z.d_fits_op ["op", "number", "functions", "rows"] (sp_fits_op Z) := by
  refine FnOk.mono (T.F_fits_op.okX (k := 0) sc_fits_op (fun vs H Q E h => ?_) (fun cdv A outer s H vs Q E hr h => ?_)) (by decide)
  · obtain ⟨a0, a1, a2, a3, rfl, _⟩ := h; rfl
  · obtain ⟨a0, a1, a2, a3, rfl, h⟩ := h
    have tk : Takes (cxOf (L2.CX P w) P w Z.K Z.mg base nm_fits_op "fits_op" (defScope st_fits_op) Z.f_fits_op cdv A outer s H E) (fun cls d _ H => E cls d H) := takes_of rfl rfl rfl rfl
    have po : PassesOwn (model P w) (cxOf (L2.CX P w) P w Z.K Z.mg base nm_fits_op "fits_op" (defScope st_fits_op) Z.f_fits_op cdv A outer s H E).A (cxOf (L2.CX P w) P w Z.K Z.mg base nm_fits_op "fits_op" (defScope st_fits_op) Z.f_fits_op cdv A outer s H E).env (cxOf (L2.CX P w) P w Z.K Z.mg base nm_fits_op "fits_op" (defScope st_fits_op) Z.f_fits_op cdv A outer s H E).xe := passes_of rfl
    refine ⟨t_fits_op Z (fun cls d _ H => E cls d H), ?_, rd_fits_op T h⟩
    exact (pss_cons (ps_if (pt_cmpR (op_eqU (hr.units)) (pv 0) (pe_glob rfl T.g_PUSH_codes ⟨_, rfl⟩) (nomark _)) (pss_one (ps_ret pe_bl)) pss_nil)
      (pss_cons (ps_if (pt_cmpR op_in_seq (pv 0) (pe_tup (pa_cons (pe_glob rfl T.g_GET ⟨_, rfl⟩) (pa_cons (pe_glob rfl T.g_SET ⟨_, rfl⟩) pa_nil))) (by rfl)) (pss_one (ps_ret (pe_chain op_le op_lt pe_int (pv 1) (pe_glob rfl T.g_MOST_BOXES ⟨_, rfl⟩)))) pss_nil)
      (pss_cons (ps_if (pt_cmpR op_in_seq (pv 0) (pe_tup (pa_cons (pe_glob rfl T.g_JUMP ⟨_, rfl⟩) (pa_cons (pe_glob rfl T.g_UNLESS ⟨_, rfl⟩) pa_nil))) (by rfl)) (pss_one (ps_ret (pe_chain op_le op_lt pe_int (pv 1) (pv 3)))) pss_nil)
      (pss_cons (ps_if (pt_cmpR (op_eqU (hr.units)) (pv 0) (pe_glob rfl T.g_CALL ⟨_, rfl⟩) (nomark _)) (pss_one (ps_ret (pe_chain op_le op_lt pe_int (pv 1) (pv 2)))) pss_nil)
      (pss_cons (ps_if (pt_cmpR op_in_seq (pv 0) (pe_tup (pa_cons (pe_glob rfl T.g_DROP ⟨_, rfl⟩) (pa_cons (pe_glob rfl T.g_BACK ⟨_, rfl⟩) (pa_cons (pe_glob rfl T.g_FAIL_codes ⟨_, rfl⟩) (pa_cons (pe_glob rfl T.g_BREATH ⟨_, rfl⟩) pa_nil))))) (by rfl)) (pss_one (ps_ret (pe_cmpR (op_eqU (hr.units)) (pv 1) pe_int (nomark _)))) pss_nil)
      (pss_cons (ps_if (pt_cmpR (op_eqU (hr.units)) (pv 0) (pe_glob rfl T.g_DO ⟨_, rfl⟩) (nomark _)) (pss_one (ps_ret (pe_chain op_le op_le (pe_glob rfl T.g_FIRST_DONE ⟨_, rfl⟩) (pv 1) (pe_glob rfl T.g_LAST_DONE ⟨_, rfl⟩)))) pss_nil)
      (pss_one (ps_ret (pe_and (pe_cmpR (op_eqU (hr.units)) (pv 0) (pe_glob rfl T.g_PICK ⟨_, rfl⟩) (nomark _)) (pe_one (pe_chain op_le op_le pe_int (pv 1) (pe_glob rfl T.g_MOST_PICKED ⟨_, rfl⟩))))))))))))

theorem sc_fits_head : FnScope nm_fits_head ["head", "at", "rows"] (defScope st_fits_head) := ⟨rfl, rfl, rfl, by decide +kernel, rfl, by decide +kernel, by decide +kernel⟩
theorem ok_fits_head {P : Program} {w : World} {base : Heap} {Z : Adr} (T : Top Z)  : FnOk P w Z.K Z.mg base (L2.CX P w) 1 Z.f_fits_head Z.d_fits_head ["head", "at", "rows"] (sp_fits_head Z) := by
  refine FnOk.mono (T.F_fits_head.okX (k := 0) sc_fits_head (fun vs H Q E h => ?_) (fun cdv A outer s H vs Q E hr h => ?_)) (by decide)
  · obtain ⟨a0, a1, a2, rfl, _⟩ := h; rfl
  · obtain ⟨a0, a1, a2, rfl, h⟩ := h
    have tk : Takes (cxOf (L2.CX P w) P w Z.K Z.mg base nm_fits_head "fits_head" (defScope st_fits_head) Z.f_fits_head cdv A outer s H E) (fun cls d _ H => E cls d H) := takes_of rfl rfl rfl rfl
    have po : PassesOwn (model P w) (cxOf (L2.CX P w) P w Z.K Z.mg base nm_fits_head "fits_head" (defScope st_fits_head) Z.f_fits_head cdv A outer s H E).A (cxOf (L2.CX P w) P w Z.K Z.mg base nm_fits_head "fits_head" (defScope st_fits_head) Z.f_fits_head cdv A outer s H E).env (cxOf (L2.CX P w) P w Z.K Z.mg base nm_fits_head "fits_head" (defScope st_fits_head) Z.f_fits_head cdv A outer s H E).xe := passes_of rfl
    refine ⟨t_fits_head Z (fun cls d _ H => E cls d H), ?_, rd_fits_head T h⟩
    exact (pss_cons (ps_asg (pv 0) (pg_un rfl (pgs_cons (pg_name (i := 3) sc_fits_head.nd rfl (Or.inl rfl)) (pgs_cons (pg_name (i := 4) sc_fits_head.nd rfl (Or.inl rfl)) (pgs_cons (pg_name (i := 5) sc_fits_head.nd rfl (Or.inl rfl)) pgs_nil)))))
      (pss_cons (ps_if (PW.pt (pw_or (pt_not (pt_chain op_le op_lt pe_int (pv 3) (pv 2))) (pw_or1 (pt_not (pt_chain op_le op_le pe_int (pv 4) (pe_op op_ml (pe_glob rfl T.g_MOST_PARAMS ⟨_, rfl⟩) (pe_callTy call_int' (by rfl) T.n_int (by decide +kernel) (pa_cons (pe_cmpR op_gt (pv 1) pe_int (nomark _)) pa_nil)))))))) (pss_one (ps_ret pe_bl)) pss_nil)
      (pss_one (ps_ret (pe_chain op_le op_le (pv 4) (pv 5) (pe_glob rfl T.g_MOST_BOXES ⟨_, rfl⟩))))))

theorem sc_make_code : FnScope nm_make_code ["heads", "rows"] (defScope st_make_code) := ⟨rfl, rfl, rfl, by decide +kernel, rfl, by decide +kernel, by decide +kernel⟩
theorem ok_make_code {P : Program} {w : World} {base : Heap} {Z : Adr} (T : Top Z) (G_fits_head : FnOk P w Z.K Z.mg base (L2.CX P w) 1 Z.f_fits_head Z.d_fits_head ["head", "at", "rows"] (sp_fits_head Z)) (G_fits_op : FnOk P w Z.K Z.mg base (L2.CX P w) 1 Z.f_fits_op Z.d_fits_op ["op", "number", "functions", "rows"] (sp_fits_op Z)) : FnOk P w Z.K Z.mg base (L2.CX P w) 2 Z.f_make_code Z.d_make_code ["heads", "rows"] (sp_make_code Z) := by
  refine FnOk.mono (T.F_make_code.okX (k := 1) sc_make_code (fun vs H Q E h => ?_) (fun cdv A outer s H vs Q E hr h => ?_)) (by decide)
  · obtain ⟨a0, a1, rfl, _⟩ := h; rfl
  · obtain ⟨a0, a1, rfl, h⟩ := h
    have tk : Takes (cxOf (L2.CX P w) P w Z.K Z.mg base nm_make_code "make_code" (defScope st_make_code) Z.f_make_code cdv A outer s H E) (fun cls d _ H => E cls d H) := takes_of rfl rfl rfl rfl
    have po : PassesOwn (model P w) (cxOf (L2.CX P w) P w Z.K Z.mg base nm_make_code "make_code" (defScope st_make_code) Z.f_make_code cdv A outer s H E).A (cxOf (L2.CX P w) P w Z.K Z.mg base nm_make_code "make_code" (defScope st_make_code) Z.f_make_code cdv A outer s H E).env (cxOf (L2.CX P w) P w Z.K Z.mg base nm_make_code "make_code" (defScope st_make_code) Z.f_make_code cdv A outer s H E).xe := passes_of rfl
    refine ⟨t_make_code Z (fun cls d _ H => E cls d H), ?_, rd_make_code T h⟩
    exact (pss_cons (ps_if (PW.pt (pw_or (pt_not (pt_chain op_le op_le pe_int (pe_callB call_len' (by rfl) T.n_len (by decide +kernel) (pa_cons (pv 0) pa_nil)) (pe_glob rfl T.g_MOST_FUNCTIONS ⟨_, rfl⟩))) (pw_or1 (pt_cmpR op_lt (pe_callB call_len' (by rfl) T.n_len (by decide +kernel) (pa_cons (pv 1) pa_nil)) pe_int (nomark _))))) (pss_one (ps_ret pe_bl)) pss_nil)
      (pss_cons (ps_for po rfl (pi_range1 rfl T.n_range (pa_cons (pe_callB call_len' (by rfl) T.n_len (by decide +kernel) (pa_cons (pv 0) pa_nil)) pa_nil)) (pg_name (i := 2) sc_make_code.nd rfl (Or.inl rfl)) (pss_one (ps_if (pt_not (pt_val (pe_callS G_fits_head (hr.mono (by decide)) rfl T.m_fits_head T.k_fits_head T.b_fits_head (fun σ => passAt tk σ) (pa_cons (pe_ix ix_seq (pv 0) (pv 2) (fun _ _ => rfl)) (pa_cons (pv 2) (pa_cons (pe_callB call_len' (by rfl) T.n_len (by decide +kernel) (pa_cons (pv 1) pa_nil)) pa_nil)))))) (pss_one (ps_ret pe_bl)) pss_nil)))
      (pss_cons (ps_for po rfl (pi_un (pv 1)) (pg_un rfl (pgs_cons (pg_name (i := 3) sc_make_code.nd rfl (Or.inl rfl)) (pgs_cons (pg_name (i := 4) sc_make_code.nd rfl (Or.inl rfl)) pgs_nil))) (pss_one (ps_if (pt_not (pt_val (pe_callS G_fits_op (hr.mono (by decide)) rfl T.m_fits_op T.k_fits_op T.b_fits_op (fun σ => passAt tk σ) (pa_cons (pv 3) (pa_cons (pv 4) (pa_cons (pe_callB call_len' (by rfl) T.n_len (by decide +kernel) (pa_cons (pv 0) pa_nil)) (pa_cons (pe_callB call_len' (by rfl) T.n_len (by decide +kernel) (pa_cons (pv 1) pa_nil)) pa_nil))))))) (pss_one (ps_ret pe_bl)) pss_nil)))
      (pss_one (ps_ret pe_bl)))))

theorem sc_cut_up : FnScope nm_cut_up ["numbers", "size"] (defScope st_cut_up) := ⟨rfl, rfl, rfl, by decide +kernel, rfl, by decide +kernel, by decide +kernel⟩
theorem ok_cut_up {P : Program} {w : World} {base : Heap} {Z : Adr} (T : Top Z)  : FnOk P w Z.K Z.mg base (L2.CX P w) 1 Z.f_cut_up Z.d_cut_up ["numbers", "size"] (sp_cut_up Z) := by
  refine FnOk.mono (T.F_cut_up.okX (k := 0) sc_cut_up (fun vs H Q E h => ?_) (fun cdv A outer s H vs Q E hr h => ?_)) (by decide)
  · obtain ⟨a0, a1, rfl, _⟩ := h; rfl
  · obtain ⟨a0, a1, rfl, h⟩ := h
    have tk : Takes (cxOf (L2.CX P w) P w Z.K Z.mg base nm_cut_up "cut_up" (defScope st_cut_up) Z.f_cut_up cdv A outer s H E) (fun cls d _ H => E cls d H) := takes_of rfl rfl rfl rfl
    have po : PassesOwn (model P w) (cxOf (L2.CX P w) P w Z.K Z.mg base nm_cut_up "cut_up" (defScope st_cut_up) Z.f_cut_up cdv A outer s H E).A (cxOf (L2.CX P w) P w Z.K Z.mg base nm_cut_up "cut_up" (defScope st_cut_up) Z.f_cut_up cdv A outer s H E).env (cxOf (L2.CX P w) P w Z.K Z.mg base nm_cut_up "cut_up" (defScope st_cut_up) Z.f_cut_up cdv A outer s H E).xe := passes_of rfl
    refine ⟨t_cut_up Z (fun cls d _ H => E cls d H), ?_, rd_cut_up T h⟩
    exact (pss_cons (ps_set (i := 2) sc_cut_up.nd rfl (Or.inl rfl) (pe_lst pa_nil))
      (pss_cons (ps_for po rfl (pi_range1 rfl T.n_range (pa_cons (pe_op op_fdv (pe_callB call_len' (by rfl) T.n_len (by decide +kernel) (pa_cons (pv 0) pa_nil)) (pv 1)) pa_nil)) (pg_name (i := 3) sc_cut_up.nd rfl (Or.inl rfl)) (pss_one (ps_expr (pe_bm PySem.F.plainAttrs_list PySem.F.slot_list_append PySem.F.type_list_append mt_append (pv 2) (pa_cons (pe_callTy call_tuple' (by rfl) T.n_tuple (by decide +kernel) (pa_cons (pe_slice sl_U (pv 0) (po_some (pe_op op_ml (pv 3) (pv 1))) (po_some (pe_op op_addU (pe_op op_ml (pv 3) (pv 1)) (pv 1)))) pa_nil)) pa_nil)))))
      (pss_one (ps_ret (pv 2)))))

theorem sc_parted_code : FnScope nm_parted_code ["thing"] (defScope st_parted_code) := ⟨rfl, rfl, rfl, by decide +kernel, rfl, by decide +kernel, by decide +kernel⟩
theorem ok_parted_code {P : Program} {w : World} {base : Heap} {Z : Adr} (T : Top Z) (G_are_wholes : FnOk P w Z.K Z.mg base (L2.CX P w) 2 Z.f_are_wholes Z.d_are_wholes ["things", "many"] (sp_are_wholes Z)) (G_cut_up : FnOk P w Z.K Z.mg base (L2.CX P w) 1 Z.f_cut_up Z.d_cut_up ["numbers", "size"] (sp_cut_up Z)) (G_make_code : FnOk P w Z.K Z.mg base (L2.CX P w) 2 Z.f_make_code Z.d_make_code ["heads", "rows"] (sp_make_code Z)) : FnOk P w Z.K Z.mg base (L2.CX P w) 3 Z.f_parted_code Z.d_parted_code ["thing"] (sp_parted_code Z) := by
  refine FnOk.mono (T.F_parted_code.okX (k := 2) sc_parted_code (fun vs H Q E h => ?_) (fun cdv A outer s H vs Q E hr h => ?_)) (by decide)
  · obtain ⟨a0, rfl, _⟩ := h; rfl
  · obtain ⟨a0, rfl, h⟩ := h
    have tk : Takes (cxOf (L2.CX P w) P w Z.K Z.mg base nm_parted_code "parted_code" (defScope st_parted_code) Z.f_parted_code cdv A outer s H E) (fun cls d _ H => E cls d H) := takes_of rfl rfl rfl rfl
    have po : PassesOwn (model P w) (cxOf (L2.CX P w) P w Z.K Z.mg base nm_parted_code "parted_code" (defScope st_parted_code) Z.f_parted_code cdv A outer s H E).A (cxOf (L2.CX P w) P w Z.K Z.mg base nm_parted_code "parted_code" (defScope st_parted_code) Z.f_parted_code cdv A outer s H E).env (cxOf (L2.CX P w) P w Z.K Z.mg base nm_parted_code "parted_code" (defScope st_parted_code) Z.f_parted_code cdv A outer s H E).xe := passes_of rfl
    refine ⟨t_parted_code Z (fun cls d _ H => E cls d H), ?_, rd_parted_code T h⟩
    exact (pss_cons (ps_if (PW.pt (pw_or (pt_not (pt_val (pe_callB call_isi' (by rfl) T.n_isinstance (by decide +kernel) (pa_cons (pv 0) (pa_cons (pe_bltn (by rfl) T.n_list (by decide +kernel) rfl) pa_nil))))) (pw_or (pt_cmpR (op_eqU (hr.units)) (pe_callB call_len' (by rfl) T.n_len (by decide +kernel) (pa_cons (pv 0) pa_nil)) pe_int (nomark _)) (pw_or1 (pt_not (pt_val (pe_callS G_are_wholes (hr.mono (by decide)) rfl T.m_are_wholes T.k_are_wholes T.b_are_wholes (fun σ => passAt tk σ) (pa_cons (pv 0) (pa_cons (pe_callB call_len' (by rfl) T.n_len (by decide +kernel) (pa_cons (pv 0) pa_nil)) pa_nil))))))))) (pss_one (ps_raise rfl tk (pmk_own PySem.F.excBase_ValueError T.oq_NoCode T.g_NoCode T.ok_NoCode (raises_own T.ob_NoCode T.oy_NoCode) rfl))) pss_nil)
      (pss_cons (ps_set (i := 1) sc_parted_code.nd rfl (Or.inl rfl) (pe_ix ix_seq (pv 0) pe_int (fun _ _ => rfl)))
      (pss_cons (ps_if (PW.pt (pw_or (pt_not (pt_chain op_le op_le pe_int (pv 1) (pe_glob rfl T.g_MOST_FUNCTIONS ⟨_, rfl⟩))) (pw_or (pt_cmpR op_lt (pe_callB call_len' (by rfl) T.n_len (by decide +kernel) (pa_cons (pv 0) pa_nil)) (pe_op op_addU (pe_op op_ml pe_int (pv 1)) pe_int) (nomark _)) (pw_or1 (pt_cmpR (op_eqU (hr.units)) (pe_op op_md (pe_op op_sub (pe_callB call_len' (by rfl) T.n_len (by decide +kernel) (pa_cons (pv 0) pa_nil)) (pe_op op_ml pe_int (pv 1))) pe_int) pe_int (nomark _)))))) (pss_one (ps_raise rfl tk (pmk_own PySem.F.excBase_ValueError T.oq_NoCode T.g_NoCode T.ok_NoCode (raises_own T.ob_NoCode T.oy_NoCode) rfl))) pss_nil)
      (pss_cons (ps_set (i := 2) sc_parted_code.nd rfl (Or.inl rfl) (pe_callS G_cut_up (hr.mono (by decide)) rfl T.m_cut_up T.k_cut_up T.b_cut_up (fun σ => passAt tk σ) (pa_cons (pe_slice sl_U (pv 0) (po_some pe_int) (po_some (pe_op op_addU (pe_op op_ml pe_int (pv 1)) pe_int))) (pa_cons pe_int pa_nil))))
      (pss_cons (ps_set (i := 3) sc_parted_code.nd rfl (Or.inl rfl) (pe_callS G_cut_up (hr.mono (by decide)) rfl T.m_cut_up T.k_cut_up T.b_cut_up (fun σ => passAt tk σ) (pa_cons (pe_slice sl_U (pv 0) (po_some (pe_op op_addU (pe_op op_ml pe_int (pv 1)) pe_int)) po_none) (pa_cons pe_int pa_nil))))
      (pss_cons (ps_if (pt_not (pt_val (pe_callS G_make_code (hr.mono (by decide)) rfl T.m_make_code T.k_make_code T.b_make_code (fun σ => passAt tk σ) (pa_cons (pv 2) (pa_cons (pv 3) pa_nil))))) (pss_one (ps_raise rfl tk (pmk_own PySem.F.excBase_ValueError T.oq_NoCode T.g_NoCode T.ok_NoCode (raises_own T.ob_NoCode T.oy_NoCode) rfl))) pss_nil)
      (pss_one (ps_ret (pe_tup (pa_cons (pv 2) (pa_cons (pv 3) pa_nil)))))))))))

theorem sc_is_code : FnScope nm_is_code ["thing"] (defScope st_is_code) := ⟨rfl, rfl, rfl, by decide +kernel, rfl, by decide +kernel, by decide +kernel⟩
theorem ok_is_code {P : Program} {w : World} {base : Heap} {Z : Adr} (T : Top Z) (G_parted_code : FnOk P w Z.K Z.mg base (L2.CX P w) 3 Z.f_parted_code Z.d_parted_code ["thing"] (sp_parted_code Z)) : FnOk P w Z.K Z.mg base (L2.CX P w) 4 Z.f_is_code Z.d_is_code ["thing"] (sp_is_code Z) := by
  refine FnOk.mono (T.F_is_code.okX (k := 3) sc_is_code (fun vs H Q E h => ?_) (fun cdv A outer s H vs Q E hr h => ?_)) (by decide)
  · obtain ⟨a0, rfl, _⟩ := h; rfl
  · obtain ⟨a0, rfl, h⟩ := h
    have tk : Takes (cxOf (L2.CX P w) P w Z.K Z.mg base nm_is_code "is_code" (defScope st_is_code) Z.f_is_code cdv A outer s H E) (fun cls d _ H => E cls d H) := takes_of rfl rfl rfl rfl
    have po : PassesOwn (model P w) (cxOf (L2.CX P w) P w Z.K Z.mg base nm_is_code "is_code" (defScope st_is_code) Z.f_is_code cdv A outer s H E).A (cxOf (L2.CX P w) P w Z.K Z.mg base nm_is_code "is_code" (defScope st_is_code) Z.f_is_code cdv A outer s H E).env (cxOf (L2.CX P w) P w Z.K Z.mg base nm_is_code "is_code" (defScope st_is_code) Z.f_is_code cdv A outer s H E).xe := passes_of rfl
    refine ⟨t_is_code Z (fun cls d _ H => E cls d H), ?_, rd_is_code T h⟩
    exact (pss_cons (ps_set (i := 1) sc_is_code.nd rfl (Or.inl rfl) pe_bl)
      (pss_cons (ps_try_only (tb := (fun W => (tDrop (tCallS (sp_parted_code Z) (WE W) (tCons (tVar 0) tNil))))) (ts := (fun a cls d => (tAsg (tC (.bl false)) (gName 1)))) rfl rfl ⟨rfl, by decide, Or.inl T.g_NoCode⟩ tk (fun W pn xe tk po => (pss_one (ps_expr (pe_callS G_parted_code (hr.mono (by decide)) rfl T.m_parted_code T.k_parted_code T.b_parted_code (fun σ => passAt tk σ) (pa_cons (pv 0) pa_nil))))) (fun a oe cls d pn hz hf => (pss_one (ps_set (i := 1) sc_is_code.nd rfl (Or.inl rfl) pe_bl))))
      (pss_one (ps_ret (pv 1)))))

theorem sc_heads_of : FnScope nm_heads_of ["code"] (defScope st_heads_of) := ⟨rfl, rfl, rfl, by decide +kernel, rfl, by decide +kernel, by decide +kernel⟩
theorem ok_heads_of {P : Program} {w : World} {base : Heap} {Z : Adr} (T : Top Z) (G_parted_code : FnOk P w Z.K Z.mg base (L2.CX P w) 3 Z.f_parted_code Z.d_parted_code ["thing"] (sp_parted_code Z)) : FnOk P w Z.K Z.mg base (L2.CX P w) 4 Z.f_heads_of Z.d_heads_of ["code"] (sp_heads_of Z) := by
  refine FnOk.mono (T.F_heads_of.okX (k := 3) sc_heads_of (fun vs H Q E h => ?_) (fun cdv A outer s H vs Q E hr h => ?_)) (by decide)
  · obtain ⟨a0, rfl, _⟩ := h; rfl
  · obtain ⟨a0, rfl, h⟩ := h
    have tk : Takes (cxOf (L2.CX P w) P w Z.K Z.mg base nm_heads_of "heads_of" (defScope st_heads_of) Z.f_heads_of cdv A outer s H E) (fun cls d _ H => E cls d H) := takes_of rfl rfl rfl rfl
    have po : PassesOwn (model P w) (cxOf (L2.CX P w) P w Z.K Z.mg base nm_heads_of "heads_of" (defScope st_heads_of) Z.f_heads_of cdv A outer s H E).A (cxOf (L2.CX P w) P w Z.K Z.mg base nm_heads_of "heads_of" (defScope st_heads_of) Z.f_heads_of cdv A outer s H E).env (cxOf (L2.CX P w) P w Z.K Z.mg base nm_heads_of "heads_of" (defScope st_heads_of) Z.f_heads_of cdv A outer s H E).xe := passes_of rfl
    refine ⟨t_heads_of Z (fun cls d _ H => E cls d H), ?_, rd_heads_of T h⟩
    exact (pss_one (ps_ret (pe_ix ix_seq (pe_callS G_parted_code (hr.mono (by decide)) rfl T.m_parted_code T.k_parted_code T.b_parted_code (fun σ => passAt tk σ) (pa_cons (pv 0) pa_nil)) pe_int (fun _ _ => rfl))))

theorem sc_rows_of : FnScope nm_rows_of ["code"] (defScope st_rows_of) := ⟨rfl, rfl, rfl, by decide +kernel, rfl, by decide +kernel, by decide +kernel⟩
theorem ok_rows_of {P : Program} {w : World} {base : Heap} {Z : Adr} (T : Top Z) (G_parted_code : FnOk P w Z.K Z.mg base (L2.CX P w) 3 Z.f_parted_code Z.d_parted_code ["thing"] (sp_parted_code Z)) : FnOk P w Z.K Z.mg base (L2.CX P w) 4 Z.f_rows_of Z.d_rows_of ["code"] (sp_rows_of Z) := by
  refine FnOk.mono (T.F_rows_of.okX (k := 3) sc_rows_of (fun vs H Q E h => ?_) (fun cdv A outer s H vs Q E hr h => ?_)) (by decide)
  · obtain ⟨a0, rfl, _⟩ := h; rfl
  · obtain ⟨a0, rfl, h⟩ := h
    have tk : Takes (cxOf (L2.CX P w) P w Z.K Z.mg base nm_rows_of "rows_of" (defScope st_rows_of) Z.f_rows_of cdv A outer s H E) (fun cls d _ H => E cls d H) := takes_of rfl rfl rfl rfl
    have po : PassesOwn (model P w) (cxOf (L2.CX P w) P w Z.K Z.mg base nm_rows_of "rows_of" (defScope st_rows_of) Z.f_rows_of cdv A outer s H E).A (cxOf (L2.CX P w) P w Z.K Z.mg base nm_rows_of "rows_of" (defScope st_rows_of) Z.f_rows_of cdv A outer s H E).env (cxOf (L2.CX P w) P w Z.K Z.mg base nm_rows_of "rows_of" (defScope st_rows_of) Z.f_rows_of cdv A outer s H E).xe := passes_of rfl
    refine ⟨t_rows_of Z (fun cls d _ H => E cls d H), ?_, rd_rows_of T h⟩
    exact (pss_one (ps_ret (pe_ix ix_seq (pe_callS G_parted_code (hr.mono (by decide)) rfl T.m_parted_code T.k_parted_code T.b_parted_code (fun σ => passAt tk σ) (pa_cons (pv 0) pa_nil)) pe_int (fun _ _ => rfl))))

theorem sc_code_of : FnScope nm_code_of ["heads", "rows"] (defScope st_code_of) := ⟨rfl, rfl, rfl, by decide +kernel, rfl, by decide +kernel, by decide +kernel⟩
theorem ok_code_of {P : Program} {w : World} {base : Heap} {Z : Adr} (T : Top Z) (G_are_wholes : FnOk P w Z.K Z.mg base (L2.CX P w) 2 Z.f_are_wholes Z.d_are_wholes ["things", "many"] (sp_are_wholes Z)) (G_make_code : FnOk P w Z.K Z.mg base (L2.CX P w) 2 Z.f_make_code Z.d_make_code ["heads", "rows"] (sp_make_code Z)) : FnOk P w Z.K Z.mg base (L2.CX P w) 3 Z.f_code_of Z.d_code_of ["heads", "rows"] (sp_code_of Z) := by
  refine FnOk.mono (T.F_code_of.okX (k := 2) sc_code_of (fun vs H Q E h => ?_) (fun cdv A outer s H vs Q E hr h => ?_)) (by decide)
  · obtain ⟨a0, a1, rfl, _⟩ := h; rfl
  · obtain ⟨a0, a1, rfl, h⟩ := h
    have tk : Takes (cxOf (L2.CX P w) P w Z.K Z.mg base nm_code_of "code_of" (defScope st_code_of) Z.f_code_of cdv A outer s H E) (fun cls d _ H => E cls d H) := takes_of rfl rfl rfl rfl
    have po : PassesOwn (model P w) (cxOf (L2.CX P w) P w Z.K Z.mg base nm_code_of "code_of" (defScope st_code_of) Z.f_code_of cdv A outer s H E).A (cxOf (L2.CX P w) P w Z.K Z.mg base nm_code_of "code_of" (defScope st_code_of) Z.f_code_of cdv A outer s H E).env (cxOf (L2.CX P w) P w Z.K Z.mg base nm_code_of "code_of" (defScope st_code_of) Z.f_code_of cdv A outer s H E).xe := passes_of rfl
    refine ⟨t_code_of Z (fun cls d _ H => E cls d H), ?_, rd_code_of T h⟩
    exact (pss_cons (ps_if (PW.pt (pw_or (pt_not (pt_val (pe_callB call_isi' (by rfl) T.n_isinstance (by decide +kernel) (pa_cons (pv 0) (pa_cons (pe_tup (pa_cons (pe_bltn (by rfl) T.n_list (by decide +kernel) rfl) (pa_cons (pe_bltn (by rfl) T.n_tuple (by decide +kernel) rfl) pa_nil))) pa_nil))))) (pw_or1 (pt_not (pt_val (pe_callB call_isi' (by rfl) T.n_isinstance (by decide +kernel) (pa_cons (pv 1) (pa_cons (pe_tup (pa_cons (pe_bltn (by rfl) T.n_list (by decide +kernel) rfl) (pa_cons (pe_bltn (by rfl) T.n_tuple (by decide +kernel) rfl) pa_nil))) pa_nil)))))))) (pss_one (ps_raise rfl tk (pmk_own PySem.F.excBase_ValueError T.oq_NoCode T.g_NoCode T.ok_NoCode (raises_own T.ob_NoCode T.oy_NoCode) rfl))) pss_nil)
      (pss_cons (ps_if (PW.pt (pw_or (pt_not (pt_val (pe_callB (cr_all rfl) (by rfl) T.n_all (by decide +kernel) (pa_cons (pe_lc (own := [(".0", 5), ("head", 2)]) (g := (gName 2)) (tt := tYes) rfl sc_code_of.nd (pi_un (pv 0)) (blkOk_by (own := [(".0", 5), ("head", 2)]) (N := nm_code_of) (sc := defScope st_code_of) (by decide +kernel)) (fun _ _ _ _ _ => (pg_name (i := 2) sc_code_of.nd rfl (Or.inl rfl))) (fun _ _ _ _ _ => pts_nil) (fun _ _ _ _ _ => (pe_callS G_are_wholes (hr.mono (by decide)) rfl T.m_are_wholes T.k_are_wholes T.b_are_wholes passC (pa_cons (pv 2) (pa_cons pe_int pa_nil))))) pa_nil)))) (pw_or1 (pt_not (pt_val (pe_callB (cr_all rfl) (by rfl) T.n_all (by decide +kernel) (pa_cons (pe_lc (own := [(".0", 5), ("row", 3)]) (g := (gName 3)) (tt := tYes) rfl sc_code_of.nd (pi_un (pv 1)) (blkOk_by (own := [(".0", 5), ("row", 3)]) (N := nm_code_of) (sc := defScope st_code_of) (by decide +kernel)) (fun _ _ _ _ _ => (pg_name (i := 3) sc_code_of.nd rfl (Or.inl rfl))) (fun _ _ _ _ _ => pts_nil) (fun _ _ _ _ _ => (pe_callS G_are_wholes (hr.mono (by decide)) rfl T.m_are_wholes T.k_are_wholes T.b_are_wholes passC (pa_cons (pv 3) (pa_cons pe_int pa_nil))))) pa_nil))))))) (pss_one (ps_raise rfl tk (pmk_own PySem.F.excBase_ValueError T.oq_NoCode T.g_NoCode T.ok_NoCode (raises_own T.ob_NoCode T.oy_NoCode) rfl))) pss_nil)
      (pss_cons (ps_if (pt_not (pt_val (pe_callS G_make_code (hr.mono (by decide)) rfl T.m_make_code T.k_make_code T.b_make_code (fun σ => passAt tk σ) (pa_cons (pv 0) (pa_cons (pv 1) pa_nil))))) (pss_one (ps_raise rfl tk (pmk_own PySem.F.excBase_ValueError T.oq_NoCode T.g_NoCode T.ok_NoCode (raises_own T.ob_NoCode T.oy_NoCode) rfl))) pss_nil)
      (pss_cons (ps_set (i := 4) sc_code_of.nd rfl (Or.inl rfl) (pe_lst (pa_cons (pe_callB call_len' (by rfl) T.n_len (by decide +kernel) (pa_cons (pv 0) pa_nil)) pa_nil)))
      (pss_cons (ps_for po rfl (pi_un (pv 0)) (pg_name (i := 2) sc_code_of.nd rfl (Or.inl rfl)) (pss_one (ps_expr (pe_bm PySem.F.plainAttrs_list PySem.F.slot_list_extend PySem.F.type_list_extend mt_extend (pv 4) (pa_cons (pe_callTy call_list' (by rfl) T.n_list (by decide +kernel) (pa_cons (pv 2) pa_nil)) pa_nil)))))
      (pss_cons (ps_for po rfl (pi_un (pv 1)) (pg_name (i := 3) sc_code_of.nd rfl (Or.inl rfl)) (pss_one (ps_expr (pe_bm PySem.F.plainAttrs_list PySem.F.slot_list_extend PySem.F.type_list_extend mt_extend (pv 4) (pa_cons (pe_callTy call_list' (by rfl) T.n_list (by decide +kernel) (pa_cons (pv 3) pa_nil)) pa_nil)))))
      (pss_one (ps_ret (pv 4)))))))))

theorem sc_summed : FnScope nm_summed ["kind", "one", "other"] (defScope st_summed) := ⟨rfl, rfl, rfl, by decide +kernel, rfl, by decide +kernel, by decide +kernel⟩
theorem ok_summed {P : Program} {w : World} {base : Heap} {Z : Adr} (T : Top Z)  : FnOk P w Z.K Z.mg base (L2.CX P w) 1 Z.f_summed Z.d_summed ["kind", "one", "other"] (sp_summed Z) := by
  refine FnOk.mono (T.F_summed.okX (k := 0) sc_summed (fun vs H Q E h => ?_) (fun cdv A outer s H vs Q E hr h => ?_)) (by decide)
  · obtain ⟨a0, a1, a2, rfl, _⟩ := h; rfl
  · obtain ⟨a0, a1, a2, rfl, h⟩ := h
    have tk : Takes (cxOf (L2.CX P w) P w Z.K Z.mg base nm_summed "summed" (defScope st_summed) Z.f_summed cdv A outer s H E) (fun cls d _ H => E cls d H) := takes_of rfl rfl rfl rfl
    have po : PassesOwn (model P w) (cxOf (L2.CX P w) P w Z.K Z.mg base nm_summed "summed" (defScope st_summed) Z.f_summed cdv A outer s H E).A (cxOf (L2.CX P w) P w Z.K Z.mg base nm_summed "summed" (defScope st_summed) Z.f_summed cdv A outer s H E).env (cxOf (L2.CX P w) P w Z.K Z.mg base nm_summed "summed" (defScope st_summed) Z.f_summed cdv A outer s H E).xe := passes_of rfl
    refine ⟨t_summed Z (fun cls d _ H => E cls d H), ?_, rd_summed T h⟩
    exact (C8.pss_cut (ps_if (pt_cmpR (op_eqU (hr.units)) (pv 0) (pe_glob rfl T.g_ADD ⟨_, rfl⟩) (nomark _)) (pss_one (ps_set (i := 3) sc_summed.nd rfl (Or.inl rfl) (pe_op op_addU (pv 1) (pv 2)))) (pss_one (ps_if (pt_cmpR (op_eqU (hr.units)) (pv 0) (pe_glob rfl T.g_SUB ⟨_, rfl⟩) (nomark _)) (pss_one (ps_set (i := 3) sc_summed.nd rfl (Or.inl rfl) (pe_op op_sub (pv 1) (pv 2)))) (pss_one (ps_set (i := 3) sc_summed.nd rfl (Or.inl rfl) (pe_op op_ml (pv 1) (pv 2)))))))
      (pss_cons (ps_if (pt_cmpR op_gt (pe_callB call_len' (by rfl) T.n_len (by decide +kernel) (pa_cons (pe_callTy call_str' (by rfl) T.n_str (by decide +kernel) (pa_cons (pe_callB call_abs' (by rfl) T.n_abs (by decide +kernel) (pa_cons (pv 3) pa_nil)) pa_nil)) pa_nil)) (pe_glob rfl T.g_MOST_FIGURES ⟨_, rfl⟩) (nomark _)) (pss_one (ps_ret (pe_tup (pa_cons pe_str (pa_cons pe_int pa_nil))))) pss_nil)
      (pss_one (ps_ret (pe_tup (pa_cons pe_non (pa_cons (pv 3) pa_nil)))))))

theorem sc_parted_by : FnScope nm_parted_by ["kind", "one", "other"] (defScope st_parted_by) := ⟨rfl, rfl, rfl, by decide +kernel, rfl, by decide +kernel, by decide +kernel⟩
theorem ok_parted_by {P : Program} {w : World} {base : Heap} {Z : Adr} (T : Top Z)  : FnOk P w Z.K Z.mg base (L2.CX P w) 1 Z.f_parted_by Z.d_parted_by ["kind", "one", "other"] (sp_parted_by Z) := by
  refine FnOk.mono (T.F_parted_by.okX (k := 0) sc_parted_by (fun vs H Q E h => ?_) (fun cdv A outer s H vs Q E hr h => ?_)) (by decide)
  · obtain ⟨a0, a1, a2, rfl, _⟩ := h; rfl
  · obtain ⟨a0, a1, a2, rfl, h⟩ := h
    have tk : Takes (cxOf (L2.CX P w) P w Z.K Z.mg base nm_parted_by "parted_by" (defScope st_parted_by) Z.f_parted_by cdv A outer s H E) (fun cls d _ H => E cls d H) := takes_of rfl rfl rfl rfl
    have po : PassesOwn (model P w) (cxOf (L2.CX P w) P w Z.K Z.mg base nm_parted_by "parted_by" (defScope st_parted_by) Z.f_parted_by cdv A outer s H E).A (cxOf (L2.CX P w) P w Z.K Z.mg base nm_parted_by "parted_by" (defScope st_parted_by) Z.f_parted_by cdv A outer s H E).env (cxOf (L2.CX P w) P w Z.K Z.mg base nm_parted_by "parted_by" (defScope st_parted_by) Z.f_parted_by cdv A outer s H E).xe := passes_of rfl
    refine ⟨t_parted_by Z (fun cls d _ H => E cls d H), ?_, rd_parted_by T h⟩
    exact (pss_cons (ps_if (pt_cmpR (op_eqU (hr.units)) (pv 2) pe_int (nomark _)) (pss_one (ps_ret (pe_tup (pa_cons pe_str (pa_cons pe_int pa_nil))))) pss_nil)
      (pss_cons (ps_if (pt_cmpR (op_eqU (hr.units)) (pv 0) (pe_glob rfl T.g_QUO ⟨_, rfl⟩) (nomark _)) (pss_one (ps_ret (pe_tup (pa_cons pe_non (pa_cons (pe_op op_fdv (pv 1) (pv 2)) pa_nil))))) pss_nil)
      (pss_one (ps_ret (pe_tup (pa_cons pe_non (pa_cons (pe_op op_md (pv 1) (pv 2)) pa_nil)))))))

theorem sc_of_numbers : FnScope nm_of_numbers ["kind", "values"] (defScope st_of_numbers) := ⟨rfl, rfl, rfl, by decide +kernel, rfl, by decide +kernel, by decide +kernel⟩
theorem ok_of_numbers {P : Program} {w : World} {base : Heap} {Z : Adr} (T : Top Z) (G_summed : FnOk P w Z.K Z.mg base (L2.CX P w) 1 Z.f_summed Z.d_summed ["kind", "one", "other"] (sp_summed Z)) (G_parted_by : FnOk P w Z.K Z.mg base (L2.CX P w) 1 Z.f_parted_by Z.d_parted_by ["kind", "one", "other"] (sp_parted_by Z)) : FnOk P w Z.K Z.mg base (L2.CX P w) 2 Z.f_of_numbers Z.d_of_numbers ["kind", "values"] (sp_of_numbers Z) := by
  refine FnOk.mono (T.F_of_numbers.okX (k := 1) sc_of_numbers (fun vs H Q E h => ?_) (fun cdv A outer s H vs Q E hr h => ?_)) (by decide)
  · obtain ⟨a0, a1, rfl, _⟩ := h; rfl
  · obtain ⟨a0, a1, rfl, h⟩ := h
    have tk : Takes (cxOf (L2.CX P w) P w Z.K Z.mg base nm_of_numbers "of_numbers" (defScope st_of_numbers) Z.f_of_numbers cdv A outer s H E) (fun cls d _ H => E cls d H) := takes_of rfl rfl rfl rfl
    have po : PassesOwn (model P w) (cxOf (L2.CX P w) P w Z.K Z.mg base nm_of_numbers "of_numbers" (defScope st_of_numbers) Z.f_of_numbers cdv A outer s H E).A (cxOf (L2.CX P w) P w Z.K Z.mg base nm_of_numbers "of_numbers" (defScope st_of_numbers) Z.f_of_numbers cdv A outer s H E).env (cxOf (L2.CX P w) P w Z.K Z.mg base nm_of_numbers "of_numbers" (defScope st_of_numbers) Z.f_of_numbers cdv A outer s H E).xe := passes_of rfl
    refine ⟨t_of_numbers Z (fun cls d _ H => E cls d H), ?_, rd_of_numbers T h⟩
    exact (pss_cons (ps_asg (pv 1) (pg_un rfl (pgs_cons (pg_name (i := 2) sc_of_numbers.nd rfl (Or.inl rfl)) (pgs_cons (pg_name (i := 3) sc_of_numbers.nd rfl (Or.inl rfl)) pgs_nil))))
      (pss_cons (ps_if (pt_cmpR op_in_seq (pv 0) (pe_tup (pa_cons (pe_glob rfl T.g_ADD ⟨_, rfl⟩) (pa_cons (pe_glob rfl T.g_SUB ⟨_, rfl⟩) (pa_cons (pe_glob rfl T.g_MUL ⟨_, rfl⟩) pa_nil)))) (by rfl)) (pss_one (ps_ret (pe_callS G_summed (hr.mono (by decide)) rfl T.m_summed T.k_summed T.b_summed (fun σ => passAt tk σ) (pa_cons (pv 0) (pa_cons (pv 2) (pa_cons (pv 3) pa_nil)))))) pss_nil)
      (pss_cons (ps_if (pt_cmpR op_in_seq (pv 0) (pe_tup (pa_cons (pe_glob rfl T.g_QUO ⟨_, rfl⟩) (pa_cons (pe_glob rfl T.g_REST ⟨_, rfl⟩) pa_nil))) (by rfl)) (pss_one (ps_ret (pe_callS G_parted_by (hr.mono (by decide)) rfl T.m_parted_by T.k_parted_by T.b_parted_by (fun σ => passAt tk σ) (pa_cons (pv 0) (pa_cons (pv 2) (pa_cons (pv 3) pa_nil)))))) pss_nil)
      (pss_cons (ps_if (pt_cmpR (op_eqU (hr.units)) (pv 0) (pe_glob rfl T.g_LESS ⟨_, rfl⟩) (nomark _)) (pss_one (ps_ret (pe_tup (pa_cons pe_non (pa_cons (pe_callTy call_int' (by rfl) T.n_int (by decide +kernel) (pa_cons (pe_cmpR op_lt (pv 2) (pv 3) (nomark _)) pa_nil)) pa_nil))))) pss_nil)
      (pss_one (ps_ret (pe_tup (pa_cons pe_non (pa_cons (pe_callTy call_int' (by rfl) T.n_int (by decide +kernel) (pa_cons (pe_cmpR (op_eqU (hr.units)) (pv 2) (pv 3) (nomark _)) pa_nil)) pa_nil)))))))))

theorem sc_of_row : FnScope nm_of_row ["kind", "values", "row"] (defScope st_of_row) := ⟨rfl, rfl, rfl, by decide +kernel, rfl, by decide +kernel, by decide +kernel⟩
theorem ok_of_row {P : Program} {w : World} {base : Heap} {Z : Adr} (T : Top Z)  : FnOk P w Z.K Z.mg base (L2.CX P w) 1 Z.f_of_row Z.d_of_row ["kind", "values", "row"] (sp_of_row Z) := by
  refine FnOk.mono (T.F_of_row.okX (k := 0) sc_of_row (fun vs H Q E h => ?_) (fun cdv A outer s H vs Q E hr h => ?_)) (by decide)
  · obtain ⟨a0, a1, a2, rfl, _⟩ := h; rfl
  · obtain ⟨a0, a1, a2, rfl, h⟩ := h
    have tk : Takes (cxOf (L2.CX P w) P w Z.K Z.mg base nm_of_row "of_row" (defScope st_of_row) Z.f_of_row cdv A outer s H E) (fun cls d _ H => E cls d H) := takes_of rfl rfl rfl rfl
    have po : PassesOwn (model P w) (cxOf (L2.CX P w) P w Z.K Z.mg base nm_of_row "of_row" (defScope st_of_row) Z.f_of_row cdv A outer s H E).A (cxOf (L2.CX P w) P w Z.K Z.mg base nm_of_row "of_row" (defScope st_of_row) Z.f_of_row cdv A outer s H E).env (cxOf (L2.CX P w) P w Z.K Z.mg base nm_of_row "of_row" (defScope st_of_row) Z.f_of_row cdv A outer s H E).xe := passes_of rfl
    refine ⟨t_of_row Z (fun cls d _ H => E cls d H), ?_, rd_of_row T h⟩
    exact (pss_cons (ps_if (pt_cmpR (op_eqU (hr.units)) (pv 0) (pe_glob rfl T.g_SIZE_deeds ⟨_, rfl⟩) (nomark _)) (pss_one (ps_ret (pe_tup (pa_cons pe_non (pa_cons (pe_callB call_len' (by rfl) T.n_len (by decide +kernel) (pa_cons (pv 2) pa_nil)) pa_nil))))) pss_nil)
      (pss_cons (ps_if (pt_cmpR (op_eqU (hr.units)) (pv 0) (pe_glob rfl T.g_PUSH_deeds ⟨_, rfl⟩) (nomark _)) (pss_cons (ps_expr (pe_bm PySem.F.plainAttrs_list PySem.F.slot_list_append PySem.F.type_list_append mt_append (pv 2) (pa_cons (pe_ix ix_seq (pv 1) pe_int (fun _ _ => rfl)) pa_nil)))
      (pss_one (ps_ret (pe_tup (pa_cons pe_non (pa_cons (pe_ix ix_seq (pv 1) pe_int (fun _ _ => rfl)) pa_nil)))))) pss_nil)
      (pss_cons (ps_if (pt_not (pt_chain op_le op_lt pe_int (pe_ix ix_seq (pv 1) pe_int (fun _ _ => rfl)) (pe_callB call_len' (by rfl) T.n_len (by decide +kernel) (pa_cons (pv 2) pa_nil)))) (pss_one (ps_ret (pe_tup (pa_cons pe_str (pa_cons pe_int pa_nil))))) pss_nil)
      (pss_cons (ps_if (pt_cmpR (op_eqU (hr.units)) (pv 0) (pe_glob rfl T.g_AT ⟨_, rfl⟩) (nomark _)) (pss_one (ps_ret (pe_tup (pa_cons pe_non (pa_cons (pe_ix ix_seq (pv 2) (pe_ix ix_seq (pv 1) pe_int (fun _ _ => rfl)) (fun _ _ => rfl)) pa_nil))))) pss_nil)
      (pss_cons (ps_asg (pe_ix ix_seq (pv 1) pe_int (fun _ _ => rfl)) (pg_sub (pv 2) (pe_ix ix_seq (pv 1) pe_int (fun _ _ => rfl)) set_list))
      (pss_one (ps_ret (pe_tup (pa_cons pe_non (pa_cons (pe_ix ix_seq (pv 1) pe_int (fun _ _ => rfl)) pa_nil))))))))))

theorem sc_worth : FnScope nm_worth ["kind", "values", "rows"] (defScope st_worth) := ⟨rfl, rfl, rfl, by decide +kernel, rfl, by decide +kernel, by decide +kernel⟩
theorem ok_worth {P : Program} {w : World} {base : Heap} {Z : Adr} (T : Top Z) (G_of_numbers : FnOk P w Z.K Z.mg base (L2.CX P w) 2 Z.f_of_numbers Z.d_of_numbers ["kind", "values"] (sp_of_numbers Z)) (G_of_row : FnOk P w Z.K Z.mg base (L2.CX P w) 1 Z.f_of_row Z.d_of_row ["kind", "values", "row"] (sp_of_row Z)) : FnOk P w Z.K Z.mg base (L2.CX P w) 3 Z.f_worth Z.d_worth ["kind", "values", "rows"] (sp_worth Z) := by
  refine FnOk.mono (T.F_worth.okX (k := 2) sc_worth (fun vs H Q E h => ?_) (fun cdv A outer s H vs Q E hr h => ?_)) (by decide)
  · obtain ⟨a0, a1, a2, rfl, _⟩ := h; rfl
  · obtain ⟨a0, a1, a2, rfl, h⟩ := h
    have tk : Takes (cxOf (L2.CX P w) P w Z.K Z.mg base nm_worth "worth" (defScope st_worth) Z.f_worth cdv A outer s H E) (fun cls d _ H => E cls d H) := takes_of rfl rfl rfl rfl
    have po : PassesOwn (model P w) (cxOf (L2.CX P w) P w Z.K Z.mg base nm_worth "worth" (defScope st_worth) Z.f_worth cdv A outer s H E).A (cxOf (L2.CX P w) P w Z.K Z.mg base nm_worth "worth" (defScope st_worth) Z.f_worth cdv A outer s H E).env (cxOf (L2.CX P w) P w Z.K Z.mg base nm_worth "worth" (defScope st_worth) Z.f_worth cdv A outer s H E).xe := passes_of rfl
    refine ⟨t_worth Z (fun cls d _ H => E cls d H), ?_, rd_worth T h⟩
    exact (pss_cons (ps_if (pt_cmpR op_le (pv 0) (pe_glob rfl T.g_SAME ⟨_, rfl⟩) (nomark _)) (pss_one (ps_ret (pe_callS G_of_numbers (hr.mono (by decide)) rfl T.m_of_numbers T.k_of_numbers T.b_of_numbers (fun σ => passAt tk σ) (pa_cons (pv 0) (pa_cons (pv 1) pa_nil))))) pss_nil)
      (pss_cons (ps_if (pt_cmpR op_gt (pv 0) (pe_glob rfl T.g_SIZE_deeds ⟨_, rfl⟩) (nomark _)) (pss_cons (ps_expr (pe_bm PySem.F.plainAttrs_list PySem.F.slot_list_append PySem.F.type_list_append mt_append (pv 2) (pa_cons (pe_lst pa_nil) pa_nil)))
      (pss_one (ps_ret (pe_tup (pa_cons pe_non (pa_cons (pe_op op_sub (pe_callB call_len' (by rfl) T.n_len (by decide +kernel) (pa_cons (pv 2) pa_nil)) pe_int) pa_nil)))))) pss_nil)
      (pss_cons (ps_if (pt_not (pt_chain op_le op_lt pe_int (pe_ix ix_seq (pv 1) pe_int (fun _ _ => rfl)) (pe_callB call_len' (by rfl) T.n_len (by decide +kernel) (pa_cons (pv 2) pa_nil)))) (pss_one (ps_ret (pe_tup (pa_cons pe_str (pa_cons pe_int pa_nil))))) pss_nil)
      (pss_one (ps_ret (pe_callS G_of_row (hr.mono (by decide)) rfl T.m_of_row T.k_of_row T.b_of_row (fun σ => passAt tk σ) (pa_cons (pv 0) (pa_cons (pv 1) (pa_cons (pe_ix ix_seq (pv 2) (pe_ix ix_seq (pv 1) pe_int (fun _ _ => rfl)) (fun _ _ => rfl)) pa_nil)))))))))

theorem sc_parts_of : FnScope nm_parts_of ["kind"] (defScope st_parts_of) := ⟨rfl, rfl, rfl, by decide +kernel, rfl, by decide +kernel, by decide +kernel⟩
theorem ok_parts_of {P : Program} {w : World} {base : Heap} {Z : Adr} (T : Top Z)  : FnOk P w Z.K Z.mg base (L2.CX P w) 1 Z.f_parts_of Z.d_parts_of ["kind"] (sp_parts_of Z) := by
  refine FnOk.mono (T.F_parts_of.okX (k := 0) sc_parts_of (fun vs H Q E h => ?_) (fun cdv A outer s H vs Q E hr h => ?_)) (by decide)
  · obtain ⟨a0, rfl, _⟩ := h; rfl
  · obtain ⟨a0, rfl, h⟩ := h
    have tk : Takes (cxOf (L2.CX P w) P w Z.K Z.mg base nm_parts_of "parts_of" (defScope st_parts_of) Z.f_parts_of cdv A outer s H E) (fun cls d _ H => E cls d H) := takes_of rfl rfl rfl rfl
    have po : PassesOwn (model P w) (cxOf (L2.CX P w) P w Z.K Z.mg base nm_parts_of "parts_of" (defScope st_parts_of) Z.f_parts_of cdv A outer s H E).A (cxOf (L2.CX P w) P w Z.K Z.mg base nm_parts_of "parts_of" (defScope st_parts_of) Z.f_parts_of cdv A outer s H E).env (cxOf (L2.CX P w) P w Z.K Z.mg base nm_parts_of "parts_of" (defScope st_parts_of) Z.f_parts_of cdv A outer s H E).xe := passes_of rfl
    refine ⟨t_parts_of Z (fun cls d _ H => E cls d H), ?_, rd_parts_of T h⟩
    exact (pss_cons (ps_if (pt_cmpR (op_eqU (hr.units)) (pv 0) (pe_glob rfl T.g_NEW ⟨_, rfl⟩) (nomark _)) (pss_one (ps_ret pe_int)) pss_nil)
      (pss_cons (ps_if (pt_cmpR op_in_seq (pv 0) (pe_tup (pa_cons (pe_glob rfl T.g_FAIL_kinds ⟨_, rfl⟩) (pa_cons (pe_glob rfl T.g_SIZE_kinds ⟨_, rfl⟩) pa_nil))) (by rfl)) (pss_one (ps_ret pe_int)) pss_nil)
      (pss_cons (ps_if (pt_cmpR (op_eqU (hr.units)) (pv 0) (pe_glob rfl T.g_PUT ⟨_, rfl⟩) (nomark _)) (pss_one (ps_ret pe_int)) pss_nil)
      (pss_one (ps_ret pe_int)))))

theorem sc_Frame_init : FnScope nm_Frame_init ["self", "start", "boxes"] (defScope st_Frame_init) := ⟨rfl, rfl, rfl, by decide +kernel, rfl, by decide +kernel, by decide +kernel⟩
theorem ok_Frame_init {P : Program} {w : World} {base : Heap} {Z : Adr} (T : Top Z)  : FnOk P w Z.K Z.mg base (L2.CX P w) 1 Z.f_Frame_init Z.d_Frame_init ["self", "start", "boxes"] (sp_Frame_init Z) := by
  refine FnOk.mono (T.F_Frame_init.okX (k := 0) sc_Frame_init (fun vs H Q E h => ?_) (fun cdv A outer s H vs Q E hr h => ?_)) (by decide)
  · obtain ⟨a0, a1, a2, rfl, _⟩ := h; rfl
  · obtain ⟨a0, a1, a2, rfl, h⟩ := h
    have tk : Takes (cxOf (L2.CX P w) P w Z.K Z.mg base nm_Frame_init "Frame.__init__" (defScope st_Frame_init) Z.f_Frame_init cdv A outer s H E) (fun cls d _ H => E cls d H) := takes_of rfl rfl rfl rfl
    have po : PassesOwn (model P w) (cxOf (L2.CX P w) P w Z.K Z.mg base nm_Frame_init "Frame.__init__" (defScope st_Frame_init) Z.f_Frame_init cdv A outer s H E).A (cxOf (L2.CX P w) P w Z.K Z.mg base nm_Frame_init "Frame.__init__" (defScope st_Frame_init) Z.f_Frame_init cdv A outer s H E).env (cxOf (L2.CX P w) P w Z.K Z.mg base nm_Frame_init "Frame.__init__" (defScope st_Frame_init) Z.f_Frame_init cdv A outer s H E).xe := passes_of rfl
    refine ⟨t_Frame_init Z (fun cls d _ H => E cls d H), ?_, rd_Frame_init T h⟩
    exact (pss_cons (ps_fld (pv 0) (pv 1) rfl)
      (pss_cons (ps_fld (pv 0) (pv 2) rfl)
      (pss_one (ps_fld (pv 0) (pe_lst pa_nil) rfl))))

theorem sc_Frame_take : FnScope nm_Frame_take ["self", "many"] (defScope st_Frame_take) := ⟨rfl, rfl, rfl, by decide +kernel, rfl, by decide +kernel, by decide +kernel⟩
theorem ok_Frame_take {P : Program} {w : World} {base : Heap} {Z : Adr} (T : Top Z)  : FnOk P w Z.K Z.mg base (L2.CX P w) 1 Z.f_Frame_take Z.d_Frame_take ["self", "many"] (sp_Frame_take Z) := by
  refine FnOk.mono (T.F_Frame_take.okX (k := 0) sc_Frame_take (fun vs H Q E h => ?_) (fun cdv A outer s H vs Q E hr h => ?_)) (by decide)
  · obtain ⟨a0, a1, rfl, _⟩ := h; rfl
  · obtain ⟨a0, a1, rfl, h⟩ := h
    have tk : Takes (cxOf (L2.CX P w) P w Z.K Z.mg base nm_Frame_take "Frame.take" (defScope st_Frame_take) Z.f_Frame_take cdv A outer s H E) (fun cls d _ H => E cls d H) := takes_of rfl rfl rfl rfl
    have po : PassesOwn (model P w) (cxOf (L2.CX P w) P w Z.K Z.mg base nm_Frame_take "Frame.take" (defScope st_Frame_take) Z.f_Frame_take cdv A outer s H E).A (cxOf (L2.CX P w) P w Z.K Z.mg base nm_Frame_take "Frame.take" (defScope st_Frame_take) Z.f_Frame_take cdv A outer s H E).env (cxOf (L2.CX P w) P w Z.K Z.mg base nm_Frame_take "Frame.take" (defScope st_Frame_take) Z.f_Frame_take cdv A outer s H E).xe := passes_of rfl
    refine ⟨t_Frame_take Z (fun cls d _ H => E cls d H), ?_, rd_Frame_take T h⟩
    exact (pss_cons (ps_set (i := 2) sc_Frame_take.nd rfl (Or.inl rfl) (pe_op op_sub (pe_callB call_len' (by rfl) T.n_len (by decide +kernel) (pa_cons (pe_fld (pv 0) rfl) pa_nil)) (pv 1)))
      (pss_cons (ps_if (pt_cmpR op_lt (pv 2) pe_int (nomark _)) (pss_one (ps_ret pe_non)) pss_nil)
      (pss_cons (ps_set (i := 3) sc_Frame_take.nd rfl (Or.inl rfl) (pe_slice sl_U (pe_fld (pv 0) rfl) (po_some (pv 2)) po_none))
      (pss_cons (ps_fld (pv 0) (pe_slice sl_U (pe_fld (pv 0) rfl) po_none (po_some (pv 2))) rfl)
      (pss_one (ps_ret (pv 3)))))))

theorem sc_Frame_lay : FnScope nm_Frame_lay ["self", "value"] (defScope st_Frame_lay) := ⟨rfl, rfl, rfl, by decide +kernel, rfl, by decide +kernel, by decide +kernel⟩
theorem ok_Frame_lay {P : Program} {w : World} {base : Heap} {Z : Adr} (T : Top Z)  : FnOk P w Z.K Z.mg base (L2.CX P w) 1 Z.f_Frame_lay Z.d_Frame_lay ["self", "value"] (sp_Frame_lay Z) := by
  refine FnOk.mono (T.F_Frame_lay.okX (k := 0) sc_Frame_lay (fun vs H Q E h => ?_) (fun cdv A outer s H vs Q E hr h => ?_)) (by decide)
  · obtain ⟨a0, a1, rfl, _⟩ := h; rfl
  · obtain ⟨a0, a1, rfl, h⟩ := h
    have tk : Takes (cxOf (L2.CX P w) P w Z.K Z.mg base nm_Frame_lay "Frame.lay" (defScope st_Frame_lay) Z.f_Frame_lay cdv A outer s H E) (fun cls d _ H => E cls d H) := takes_of rfl rfl rfl rfl
    have po : PassesOwn (model P w) (cxOf (L2.CX P w) P w Z.K Z.mg base nm_Frame_lay "Frame.lay" (defScope st_Frame_lay) Z.f_Frame_lay cdv A outer s H E).A (cxOf (L2.CX P w) P w Z.K Z.mg base nm_Frame_lay "Frame.lay" (defScope st_Frame_lay) Z.f_Frame_lay cdv A outer s H E).env (cxOf (L2.CX P w) P w Z.K Z.mg base nm_Frame_lay "Frame.lay" (defScope st_Frame_lay) Z.f_Frame_lay cdv A outer s H E).xe := passes_of rfl
    refine ⟨t_Frame_lay Z (fun cls d _ H => E cls d H), ?_, rd_Frame_lay T h⟩
    exact (pss_one (ps_expr (pe_bm PySem.F.plainAttrs_list PySem.F.slot_list_append PySem.F.type_list_append mt_append (pe_fld (pv 0) rfl) (pa_cons (pv 1) pa_nil))))

theorem sc_Machine_init : FnScope nm_Machine_init ["self", "code", "given", "breaths"] (defScope st_Machine_init) := ⟨rfl, rfl, rfl, by decide +kernel, rfl, by decide +kernel, by decide +kernel⟩
theorem ok_Machine_init {P : Program} {w : World} {base : Heap} {Z : Adr} (T : Top Z) (G_heads_of : FnOk P w Z.K Z.mg base (L2.CX P w) 4 Z.f_heads_of Z.d_heads_of ["code"] (sp_heads_of Z)) (G_rows_of : FnOk P w Z.K Z.mg base (L2.CX P w) 4 Z.f_rows_of Z.d_rows_of ["code"] (sp_rows_of Z)) : FnOk P w Z.K Z.mg base (L2.CX P w) 5 Z.f_Machine_init Z.d_Machine_init ["self", "code", "given", "breaths"] (sp_Machine_init Z) := by
  refine FnOk.mono (T.F_Machine_init.okX (k := 4) sc_Machine_init (fun vs H Q E h => ?_) (fun cdv A outer s H vs Q E hr h => ?_)) (by decide)
  · obtain ⟨a0, a1, a2, a3, rfl, _⟩ := h; rfl
  · obtain ⟨a0, a1, a2, a3, rfl, h⟩ := h
    have tk : Takes (cxOf (L2.CX P w) P w Z.K Z.mg base nm_Machine_init "Machine.__init__" (defScope st_Machine_init) Z.f_Machine_init cdv A outer s H E) (fun cls d _ H => E cls d H) := takes_of rfl rfl rfl rfl
    have po : PassesOwn (model P w) (cxOf (L2.CX P w) P w Z.K Z.mg base nm_Machine_init "Machine.__init__" (defScope st_Machine_init) Z.f_Machine_init cdv A outer s H E).A (cxOf (L2.CX P w) P w Z.K Z.mg base nm_Machine_init "Machine.__init__" (defScope st_Machine_init) Z.f_Machine_init cdv A outer s H E).env (cxOf (L2.CX P w) P w Z.K Z.mg base nm_Machine_init "Machine.__init__" (defScope st_Machine_init) Z.f_Machine_init cdv A outer s H E).xe := passes_of rfl
    refine ⟨t_Machine_init Z (fun cls d _ H => E cls d H), ?_, rd_Machine_init T h⟩
    exact (pss_cons (ps_fld (pv 0) (pe_callS G_heads_of (hr.mono (by decide)) rfl T.m_heads_of T.k_heads_of T.b_heads_of (fun σ => passAt tk σ) (pa_cons (pv 1) pa_nil)) rfl)
      (pss_cons (ps_fld (pv 0) (pe_callS G_rows_of (hr.mono (by decide)) rfl T.m_rows_of T.k_rows_of T.b_rows_of (fun σ => passAt tk σ) (pa_cons (pv 1) pa_nil)) rfl)
      (pss_cons (ps_fld (pv 0) (pe_lst (pa_cons (pe_callTy call_list' (by rfl) T.n_list (by decide +kernel) (pa_cons (pv 2) pa_nil)) (pa_cons (pe_lst pa_nil) pa_nil))) rfl)
      (pss_cons (ps_fld (pv 0) (pv 3) rfl)
      (pss_cons (ps_fld (pv 0) (pe_lst pa_nil) rfl)
      (pss_one (ps_fld (pv 0) pe_int rfl)))))))

theorem sc_Machine_breathe : FnScope nm_Machine_breathe ["self"] (defScope st_Machine_breathe) := ⟨rfl, rfl, rfl, by decide +kernel, rfl, by decide +kernel, by decide +kernel⟩
theorem ok_Machine_breathe {P : Program} {w : World} {base : Heap} {Z : Adr} (T : Top Z)  : FnOk P w Z.K Z.mg base (L2.CX P w) 1 Z.f_Machine_breathe Z.d_Machine_breathe ["self"] (sp_Machine_breathe Z) := by
  refine FnOk.mono (T.F_Machine_breathe.okX (k := 0) sc_Machine_breathe (fun vs H Q E h => ?_) (fun cdv A outer s H vs Q E hr h => ?_)) (by decide)
  · obtain ⟨a0, rfl, _⟩ := h; rfl
  · obtain ⟨a0, rfl, h⟩ := h
    have tk : Takes (cxOf (L2.CX P w) P w Z.K Z.mg base nm_Machine_breathe "Machine.breathe" (defScope st_Machine_breathe) Z.f_Machine_breathe cdv A outer s H E) (fun cls d _ H => E cls d H) := takes_of rfl rfl rfl rfl
    have po : PassesOwn (model P w) (cxOf (L2.CX P w) P w Z.K Z.mg base nm_Machine_breathe "Machine.breathe" (defScope st_Machine_breathe) Z.f_Machine_breathe cdv A outer s H E).A (cxOf (L2.CX P w) P w Z.K Z.mg base nm_Machine_breathe "Machine.breathe" (defScope st_Machine_breathe) Z.f_Machine_breathe cdv A outer s H E).env (cxOf (L2.CX P w) P w Z.K Z.mg base nm_Machine_breathe "Machine.breathe" (defScope st_Machine_breathe) Z.f_Machine_breathe cdv A outer s H E).xe := passes_of rfl
    refine ⟨t_Machine_breathe Z (fun cls d _ H => E cls d H), ?_, rd_Machine_breathe T h⟩
    exact (pss_cons (ps_if (pt_cmpR op_lt (pe_fld (pv 0) rfl) pe_int (nomark _)) (pss_one (ps_ret pe_str)) pss_nil)
      (pss_cons (ps_fld (pv 0) (pe_op op_sub (pe_fld (pv 0) rfl) pe_int) rfl)
      (pss_one (ps_ret pe_non))))

theorem sc_Machine_begin : FnScope nm_Machine_begin ["self", "function", "params"] (defScope st_Machine_begin) := ⟨rfl, rfl, rfl, by decide +kernel, rfl, by decide +kernel, by decide +kernel⟩
theorem ok_Machine_begin {P : Program} {w : World} {base : Heap} {Z : Adr} (T : Top Z) (G_Frame_init : FnOk P w Z.K Z.mg base (L2.CX P w) 1 Z.f_Frame_init Z.d_Frame_init ["self", "start", "boxes"] (sp_Frame_init Z)) : FnOk P w Z.K Z.mg base (L2.CX P w) 3 Z.f_Machine_begin Z.d_Machine_begin ["self", "function", "params"] (sp_Machine_begin Z) := by
  refine FnOk.mono (T.F_Machine_begin.okX (k := 2) sc_Machine_begin (fun vs H Q E h => ?_) (fun cdv A outer s H vs Q E hr h => ?_)) (by decide)
  · obtain ⟨a0, a1, a2, rfl, _⟩ := h; rfl
  · obtain ⟨a0, a1, a2, rfl, h⟩ := h
    have tk : Takes (cxOf (L2.CX P w) P w Z.K Z.mg base nm_Machine_begin "Machine.begin" (defScope st_Machine_begin) Z.f_Machine_begin cdv A outer s H E) (fun cls d _ H => E cls d H) := takes_of rfl rfl rfl rfl
    have po : PassesOwn (model P w) (cxOf (L2.CX P w) P w Z.K Z.mg base nm_Machine_begin "Machine.begin" (defScope st_Machine_begin) Z.f_Machine_begin cdv A outer s H E).A (cxOf (L2.CX P w) P w Z.K Z.mg base nm_Machine_begin "Machine.begin" (defScope st_Machine_begin) Z.f_Machine_begin cdv A outer s H E).env (cxOf (L2.CX P w) P w Z.K Z.mg base nm_Machine_begin "Machine.begin" (defScope st_Machine_begin) Z.f_Machine_begin cdv A outer s H E).xe := passes_of rfl
    refine ⟨t_Machine_begin Z (fun cls d _ H => E cls d H), ?_, rd_Machine_begin T h⟩
    exact (pss_cons (ps_asg (pe_ix ix_seq (pe_fld (pv 0) rfl) (pv 1) (fun _ _ => rfl)) (pg_un rfl (pgs_cons (pg_name (i := 3) sc_Machine_begin.nd rfl (Or.inl rfl)) (pgs_cons (pg_name (i := 4) sc_Machine_begin.nd rfl (Or.inl rfl)) (pgs_cons (pg_name (i := 5) sc_Machine_begin.nd rfl (Or.inl rfl)) pgs_nil)))))
      (pss_one (ps_expr (pe_bm PySem.F.plainAttrs_list PySem.F.slot_list_append PySem.F.type_list_append mt_append (pe_fld (pv 0) rfl) (pa_cons (pe_makeZ T.M_Frame G_Frame_init (hr.mono (by decide)) rfl T.g_Frame T.b_Frame_init (fun σ => passAt tk σ) (pa_cons (pv 3) (pa_cons (pe_op op_addU (pv 2) (pe_op op_rep (pe_lst (pa_cons pe_int pa_nil)) (pe_op op_sub (pv 5) (pv 4)))) pa_nil))) pa_nil)))))

theorem sc_Machine_call : FnScope nm_Machine_call ["self", "frame", "function"] (defScope st_Machine_call) := ⟨rfl, rfl, rfl, by decide +kernel, rfl, by decide +kernel, by decide +kernel⟩
theorem ok_Machine_call {P : Program} {w : World} {base : Heap} {Z : Adr} (T : Top Z) (G_Frame_take : FnOk P w Z.K Z.mg base (L2.CX P w) 1 Z.f_Frame_take Z.d_Frame_take ["self", "many"] (sp_Frame_take Z)) (G_Machine_breathe : FnOk P w Z.K Z.mg base (L2.CX P w) 1 Z.f_Machine_breathe Z.d_Machine_breathe ["self"] (sp_Machine_breathe Z)) (G_Machine_begin : FnOk P w Z.K Z.mg base (L2.CX P w) 3 Z.f_Machine_begin Z.d_Machine_begin ["self", "function", "params"] (sp_Machine_begin Z)) : FnOk P w Z.K Z.mg base (L2.CX P w) 4 Z.f_Machine_call Z.d_Machine_call ["self", "frame", "function"] (sp_Machine_call Z) := by
  refine FnOk.mono (T.F_Machine_call.okX (k := 3) sc_Machine_call (fun vs H Q E h => ?_) (fun cdv A outer s H vs Q E hr h => ?_)) (by decide)
  · obtain ⟨a0, a1, a2, rfl, _⟩ := h; rfl
  · obtain ⟨a0, a1, a2, rfl, h⟩ := h
    have tk : Takes (cxOf (L2.CX P w) P w Z.K Z.mg base nm_Machine_call "Machine.call" (defScope st_Machine_call) Z.f_Machine_call cdv A outer s H E) (fun cls d _ H => E cls d H) := takes_of rfl rfl rfl rfl
    have po : PassesOwn (model P w) (cxOf (L2.CX P w) P w Z.K Z.mg base nm_Machine_call "Machine.call" (defScope st_Machine_call) Z.f_Machine_call cdv A outer s H E).A (cxOf (L2.CX P w) P w Z.K Z.mg base nm_Machine_call "Machine.call" (defScope st_Machine_call) Z.f_Machine_call cdv A outer s H E).env (cxOf (L2.CX P w) P w Z.K Z.mg base nm_Machine_call "Machine.call" (defScope st_Machine_call) Z.f_Machine_call cdv A outer s H E).xe := passes_of rfl
    refine ⟨t_Machine_call Z (fun cls d _ H => E cls d H), ?_, rd_Machine_call T h⟩
    exact (pss_cons (ps_set (i := 3) sc_Machine_call.nd rfl (Or.inl rfl) (pe_methZ (pv 1) T.cl_Frame T.mt_Frame_take G_Frame_take (hr.mono (by decide)) T.b_Frame_take (fun σ => passAt tk σ) (pa_cons (pe_ix ix_seq (pe_ix ix_seq (pe_fld (pv 0) rfl) (pv 2) (fun _ _ => rfl)) pe_int (fun _ _ => rfl)) pa_nil)))
      (pss_cons (ps_if (pt_cmpR op_isU (pv 3) pe_non (nomark _)) (pss_one (ps_ret pe_str)) pss_nil)
      (pss_cons (ps_if (pt_cmpR (op_eqU (hr.units)) (pe_callB call_len' (by rfl) T.n_len (by decide +kernel) (pa_cons (pe_fld (pv 0) rfl) pa_nil)) (pe_glob rfl T.g_MOST_GOING ⟨_, rfl⟩) (nomark _)) (pss_one (ps_ret pe_str)) pss_nil)
      (pss_cons (ps_set (i := 4) sc_Machine_call.nd rfl (Or.inl rfl) (pe_meth0Z (pv 0) T.cl_Machine T.mt_Machine_breathe G_Machine_breathe (hr.mono (by decide)) T.b_Machine_breathe (fun σ => passAt tk σ)))
      (C8.pss_cut (ps_if (pt_cmpR op_isU (pv 4) pe_non (nomark _)) (pss_one (ps_expr (pe_methZ (pv 0) T.cl_Machine T.mt_Machine_begin G_Machine_begin (hr.mono (by decide)) T.b_Machine_begin (fun σ => passAt tk σ) (pa_cons (pv 2) (pa_cons (pv 3) pa_nil))))) pss_nil)
      (pss_one (ps_ret (pv 4))))))))

theorem sc_Machine_back : FnScope nm_Machine_back ["self", "frame"] (defScope st_Machine_back) := ⟨rfl, rfl, rfl, by decide +kernel, rfl, by decide +kernel, by decide +kernel⟩
theorem ok_Machine_back {P : Program} {w : World} {base : Heap} {Z : Adr} (T : Top Z) (G_Frame_take : FnOk P w Z.K Z.mg base (L2.CX P w) 1 Z.f_Frame_take Z.d_Frame_take ["self", "many"] (sp_Frame_take Z)) (G_Frame_lay : FnOk P w Z.K Z.mg base (L2.CX P w) 1 Z.f_Frame_lay Z.d_Frame_lay ["self", "value"] (sp_Frame_lay Z)) : FnOk P w Z.K Z.mg base (L2.CX P w) 2 Z.f_Machine_back Z.d_Machine_back ["self", "frame"] (sp_Machine_back Z) := by
  refine FnOk.mono (T.F_Machine_back.okX (k := 1) sc_Machine_back (fun vs H Q E h => ?_) (fun cdv A outer s H vs Q E hr h => ?_)) (by decide)
  · obtain ⟨a0, a1, rfl, _⟩ := h; rfl
  · obtain ⟨a0, a1, rfl, h⟩ := h
    have tk : Takes (cxOf (L2.CX P w) P w Z.K Z.mg base nm_Machine_back "Machine.back" (defScope st_Machine_back) Z.f_Machine_back cdv A outer s H E) (fun cls d _ H => E cls d H) := takes_of rfl rfl rfl rfl
    have po : PassesOwn (model P w) (cxOf (L2.CX P w) P w Z.K Z.mg base nm_Machine_back "Machine.back" (defScope st_Machine_back) Z.f_Machine_back cdv A outer s H E).A (cxOf (L2.CX P w) P w Z.K Z.mg base nm_Machine_back "Machine.back" (defScope st_Machine_back) Z.f_Machine_back cdv A outer s H E).env (cxOf (L2.CX P w) P w Z.K Z.mg base nm_Machine_back "Machine.back" (defScope st_Machine_back) Z.f_Machine_back cdv A outer s H E).xe := passes_of rfl
    refine ⟨t_Machine_back Z (fun cls d _ H => E cls d H), ?_, rd_Machine_back T h⟩
    exact (pss_cons (ps_set (i := 2) sc_Machine_back.nd rfl (Or.inl rfl) (pe_methZ (pv 1) T.cl_Frame T.mt_Frame_take G_Frame_take (hr.mono (by decide)) T.b_Frame_take (fun σ => passAt tk σ) (pa_cons pe_int pa_nil)))
      (pss_cons (ps_if (pt_cmpR op_isU (pv 2) pe_non (nomark _)) (pss_one (ps_ret pe_str)) pss_nil)
      (pss_cons (ps_expr (pe_bm0 PySem.F.plainAttrs_list PySem.F.slot_list_pop PySem.F.type_list_pop mt_pop (pe_fld (pv 0) rfl)))
      (pss_cons (ps_if (pt_cmpR (op_eqU (hr.units)) (pe_fld (pv 0) rfl) (pe_lst pa_nil) (nomark _)) (pss_cons (ps_fld (pv 0) (pe_ix ix_seq (pv 2) pe_int (fun _ _ => rfl)) rfl)
      (pss_one (ps_ret pe_str))) pss_nil)
      (pss_cons (ps_expr (pe_methZ (pe_ix ix_seq (pe_fld (pv 0) rfl) (pe_un un_neg pe_int) (fun _ _ => rfl)) T.cl_Frame T.mt_Frame_lay G_Frame_lay (hr.mono (by decide)) T.b_Frame_lay (fun σ => passAt tk σ) (pa_cons (pe_ix ix_seq (pv 2) pe_int (fun _ _ => rfl)) pa_nil)))
      (pss_one (ps_ret pe_non)))))))

theorem sc_Machine_fail : FnScope nm_Machine_fail ["self", "frame"] (defScope st_Machine_fail) := ⟨rfl, rfl, rfl, by decide +kernel, rfl, by decide +kernel, by decide +kernel⟩
theorem ok_Machine_fail {P : Program} {w : World} {base : Heap} {Z : Adr} (T : Top Z) (G_Frame_take : FnOk P w Z.K Z.mg base (L2.CX P w) 1 Z.f_Frame_take Z.d_Frame_take ["self", "many"] (sp_Frame_take Z)) : FnOk P w Z.K Z.mg base (L2.CX P w) 2 Z.f_Machine_fail Z.d_Machine_fail ["self", "frame"] (sp_Machine_fail Z) := by
  refine FnOk.mono (T.F_Machine_fail.okX (k := 1) sc_Machine_fail (fun vs H Q E h => ?_) (fun cdv A outer s H vs Q E hr h => ?_)) (by decide)
  · obtain ⟨a0, a1, rfl, _⟩ := h; rfl
  · obtain ⟨a0, a1, rfl, h⟩ := h
    have tk : Takes (cxOf (L2.CX P w) P w Z.K Z.mg base nm_Machine_fail "Machine.fail" (defScope st_Machine_fail) Z.f_Machine_fail cdv A outer s H E) (fun cls d _ H => E cls d H) := takes_of rfl rfl rfl rfl
    have po : PassesOwn (model P w) (cxOf (L2.CX P w) P w Z.K Z.mg base nm_Machine_fail "Machine.fail" (defScope st_Machine_fail) Z.f_Machine_fail cdv A outer s H E).A (cxOf (L2.CX P w) P w Z.K Z.mg base nm_Machine_fail "Machine.fail" (defScope st_Machine_fail) Z.f_Machine_fail cdv A outer s H E).env (cxOf (L2.CX P w) P w Z.K Z.mg base nm_Machine_fail "Machine.fail" (defScope st_Machine_fail) Z.f_Machine_fail cdv A outer s H E).xe := passes_of rfl
    refine ⟨t_Machine_fail Z (fun cls d _ H => E cls d H), ?_, rd_Machine_fail T h⟩
    exact (pss_cons (ps_set (i := 2) sc_Machine_fail.nd rfl (Or.inl rfl) (pe_methZ (pv 1) T.cl_Frame T.mt_Frame_take G_Frame_take (hr.mono (by decide)) T.b_Frame_take (fun σ => passAt tk σ) (pa_cons pe_int pa_nil)))
      (pss_cons (ps_if (pt_cmpR op_isU (pv 2) pe_non (nomark _)) (pss_one (ps_ret pe_str)) pss_nil)
      (pss_cons (ps_fld (pv 0) (pe_ix ix_seq (pv 2) pe_int (fun _ _ => rfl)) rfl)
      (pss_one (ps_ret pe_str)))))

theorem sc_Machine_deed : FnScope nm_Machine_deed ["self", "frame", "kind"] (defScope st_Machine_deed) := ⟨rfl, rfl, rfl, by decide +kernel, rfl, by decide +kernel, by decide +kernel⟩
theorem ok_Machine_deed {P : Program} {w : World} {base : Heap} {Z : Adr} (T : Top Z) (G_Frame_take : FnOk P w Z.K Z.mg base (L2.CX P w) 1 Z.f_Frame_take Z.d_Frame_take ["self", "many"] (sp_Frame_take Z)) (G_parts_of : FnOk P w Z.K Z.mg base (L2.CX P w) 1 Z.f_parts_of Z.d_parts_of ["kind"] (sp_parts_of Z)) (G_worth : FnOk P w Z.K Z.mg base (L2.CX P w) 3 Z.f_worth Z.d_worth ["kind", "values", "rows"] (sp_worth Z)) (G_Frame_lay : FnOk P w Z.K Z.mg base (L2.CX P w) 1 Z.f_Frame_lay Z.d_Frame_lay ["self", "value"] (sp_Frame_lay Z)) : FnOk P w Z.K Z.mg base (L2.CX P w) 4 Z.f_Machine_deed Z.d_Machine_deed ["self", "frame", "kind"] (sp_Machine_deed Z) := by
  refine FnOk.mono (T.F_Machine_deed.okX (k := 3) sc_Machine_deed (fun vs H Q E h => ?_) (fun cdv A outer s H vs Q E hr h => ?_)) (by decide)
  · obtain ⟨a0, a1, a2, rfl, _⟩ := h; rfl
  · obtain ⟨a0, a1, a2, rfl, h⟩ := h
    have tk : Takes (cxOf (L2.CX P w) P w Z.K Z.mg base nm_Machine_deed "Machine.deed" (defScope st_Machine_deed) Z.f_Machine_deed cdv A outer s H E) (fun cls d _ H => E cls d H) := takes_of rfl rfl rfl rfl
    have po : PassesOwn (model P w) (cxOf (L2.CX P w) P w Z.K Z.mg base nm_Machine_deed "Machine.deed" (defScope st_Machine_deed) Z.f_Machine_deed cdv A outer s H E).A (cxOf (L2.CX P w) P w Z.K Z.mg base nm_Machine_deed "Machine.deed" (defScope st_Machine_deed) Z.f_Machine_deed cdv A outer s H E).env (cxOf (L2.CX P w) P w Z.K Z.mg base nm_Machine_deed "Machine.deed" (defScope st_Machine_deed) Z.f_Machine_deed cdv A outer s H E).xe := passes_of rfl
    refine ⟨t_Machine_deed Z (fun cls d _ H => E cls d H), ?_, rd_Machine_deed T h⟩
    exact (pss_cons (ps_set (i := 3) sc_Machine_deed.nd rfl (Or.inl rfl) (pe_methZ (pv 1) T.cl_Frame T.mt_Frame_take G_Frame_take (hr.mono (by decide)) T.b_Frame_take (fun σ => passAt tk σ) (pa_cons (pe_callS G_parts_of (hr.mono (by decide)) rfl T.m_parts_of T.k_parts_of T.b_parts_of (fun σ => passAt tk σ) (pa_cons (pv 2) pa_nil)) pa_nil)))
      (pss_cons (ps_if (pt_cmpR op_isU (pv 3) pe_non (nomark _)) (pss_one (ps_ret pe_str)) pss_nil)
      (pss_cons (ps_asg (pe_callS G_worth (hr.mono (by decide)) rfl T.m_worth T.k_worth T.b_worth (fun σ => passAt tk σ) (pa_cons (pv 2) (pa_cons (pv 3) (pa_cons (pe_fld (pv 0) rfl) pa_nil)))) (pg_un rfl (pgs_cons (pg_name (i := 4) sc_Machine_deed.nd rfl (Or.inl rfl)) (pgs_cons (pg_name (i := 5) sc_Machine_deed.nd rfl (Or.inl rfl)) pgs_nil))))
      (C8.pss_cut (ps_if (pt_cmpR op_isU (pv 4) pe_non (nomark _)) (pss_one (ps_expr (pe_methZ (pv 1) T.cl_Frame T.mt_Frame_lay G_Frame_lay (hr.mono (by decide)) T.b_Frame_lay (fun σ => passAt tk σ) (pa_cons (pv 5) pa_nil)))) pss_nil)
      (pss_one (ps_ret (pv 4)))))))

theorem sc_Machine_boxed : FnScope nm_Machine_boxed ["self", "frame", "op", "box"] (defScope st_Machine_boxed) := ⟨rfl, rfl, rfl, by decide +kernel, rfl, by decide +kernel, by decide +kernel⟩
theorem ok_Machine_boxed {P : Program} {w : World} {base : Heap} {Z : Adr} (T : Top Z) (G_Frame_lay : FnOk P w Z.K Z.mg base (L2.CX P w) 1 Z.f_Frame_lay Z.d_Frame_lay ["self", "value"] (sp_Frame_lay Z)) (G_Frame_take : FnOk P w Z.K Z.mg base (L2.CX P w) 1 Z.f_Frame_take Z.d_Frame_take ["self", "many"] (sp_Frame_take Z)) : FnOk P w Z.K Z.mg base (L2.CX P w) 2 Z.f_Machine_boxed Z.d_Machine_boxed ["self", "frame", "op", "box"] (sp_Machine_boxed Z) := by
  refine FnOk.mono (T.F_Machine_boxed.okX (k := 1) sc_Machine_boxed (fun vs H Q E h => ?_) (fun cdv A outer s H vs Q E hr h => ?_)) (by decide)
  · obtain ⟨a0, a1, a2, a3, rfl, _⟩ := h; rfl
  · obtain ⟨a0, a1, a2, a3, rfl, h⟩ := h
    have tk : Takes (cxOf (L2.CX P w) P w Z.K Z.mg base nm_Machine_boxed "Machine.boxed" (defScope st_Machine_boxed) Z.f_Machine_boxed cdv A outer s H E) (fun cls d _ H => E cls d H) := takes_of rfl rfl rfl rfl
    have po : PassesOwn (model P w) (cxOf (L2.CX P w) P w Z.K Z.mg base nm_Machine_boxed "Machine.boxed" (defScope st_Machine_boxed) Z.f_Machine_boxed cdv A outer s H E).A (cxOf (L2.CX P w) P w Z.K Z.mg base nm_Machine_boxed "Machine.boxed" (defScope st_Machine_boxed) Z.f_Machine_boxed cdv A outer s H E).env (cxOf (L2.CX P w) P w Z.K Z.mg base nm_Machine_boxed "Machine.boxed" (defScope st_Machine_boxed) Z.f_Machine_boxed cdv A outer s H E).xe := passes_of rfl
    refine ⟨t_Machine_boxed Z (fun cls d _ H => E cls d H), ?_, rd_Machine_boxed T h⟩
    exact (pss_cons (ps_if (pt_cmpR op_ge (pv 3) (pe_callB call_len' (by rfl) T.n_len (by decide +kernel) (pa_cons (pe_fld (pv 1) rfl) pa_nil)) (nomark _)) (pss_one (ps_ret pe_str)) pss_nil)
      (pss_cons (ps_if (pt_cmpR (op_eqU (hr.units)) (pv 2) (pe_glob rfl T.g_GET ⟨_, rfl⟩) (nomark _)) (pss_cons (ps_expr (pe_methZ (pv 1) T.cl_Frame T.mt_Frame_lay G_Frame_lay (hr.mono (by decide)) T.b_Frame_lay (fun σ => passAt tk σ) (pa_cons (pe_ix ix_seq (pe_fld (pv 1) rfl) (pv 3) (fun _ _ => rfl)) pa_nil)))
      (pss_one (ps_ret pe_non))) pss_nil)
      (pss_cons (ps_set (i := 4) sc_Machine_boxed.nd rfl (Or.inl rfl) (pe_methZ (pv 1) T.cl_Frame T.mt_Frame_take G_Frame_take (hr.mono (by decide)) T.b_Frame_take (fun σ => passAt tk σ) (pa_cons pe_int pa_nil)))
      (pss_cons (ps_if (pt_cmpR op_isU (pv 4) pe_non (nomark _)) (pss_one (ps_ret pe_str)) pss_nil)
      (pss_cons (ps_asg (pe_ix ix_seq (pv 4) pe_int (fun _ _ => rfl)) (pg_sub (pe_fld (pv 1) rfl) (pv 3) set_list))
      (pss_cons (ps_expr (pe_methZ (pv 1) T.cl_Frame T.mt_Frame_lay G_Frame_lay (hr.mono (by decide)) T.b_Frame_lay (fun σ => passAt tk σ) (pa_cons (pe_ix ix_seq (pv 4) pe_int (fun _ _ => rfl)) pa_nil)))
      (pss_one (ps_ret pe_non))))))))

theorem sc_Machine_led : FnScope nm_Machine_led ["self", "frame", "op", "number"] (defScope st_Machine_led) := ⟨rfl, rfl, rfl, by decide +kernel, rfl, by decide +kernel, by decide +kernel⟩
theorem ok_Machine_led {P : Program} {w : World} {base : Heap} {Z : Adr} (T : Top Z) (G_Frame_take : FnOk P w Z.K Z.mg base (L2.CX P w) 1 Z.f_Frame_take Z.d_Frame_take ["self", "many"] (sp_Frame_take Z)) : FnOk P w Z.K Z.mg base (L2.CX P w) 2 Z.f_Machine_led Z.d_Machine_led ["self", "frame", "op", "number"] (sp_Machine_led Z) := by
  refine FnOk.mono (T.F_Machine_led.okX (k := 1) sc_Machine_led (fun vs H Q E h => ?_) (fun cdv A outer s H vs Q E hr h => ?_)) (by decide)
  · obtain ⟨a0, a1, a2, a3, rfl, _⟩ := h; rfl
  · obtain ⟨a0, a1, a2, a3, rfl, h⟩ := h
    have tk : Takes (cxOf (L2.CX P w) P w Z.K Z.mg base nm_Machine_led "Machine.led" (defScope st_Machine_led) Z.f_Machine_led cdv A outer s H E) (fun cls d _ H => E cls d H) := takes_of rfl rfl rfl rfl
    have po : PassesOwn (model P w) (cxOf (L2.CX P w) P w Z.K Z.mg base nm_Machine_led "Machine.led" (defScope st_Machine_led) Z.f_Machine_led cdv A outer s H E).A (cxOf (L2.CX P w) P w Z.K Z.mg base nm_Machine_led "Machine.led" (defScope st_Machine_led) Z.f_Machine_led cdv A outer s H E).env (cxOf (L2.CX P w) P w Z.K Z.mg base nm_Machine_led "Machine.led" (defScope st_Machine_led) Z.f_Machine_led cdv A outer s H E).xe := passes_of rfl
    refine ⟨t_Machine_led Z (fun cls d _ H => E cls d H), ?_, rd_Machine_led T h⟩
    exact (pss_cons (ps_set (i := 4) sc_Machine_led.nd rfl (Or.inl rfl) (pe_methZ (pv 1) T.cl_Frame T.mt_Frame_take G_Frame_take (hr.mono (by decide)) T.b_Frame_take (fun σ => passAt tk σ) (pa_cons pe_int pa_nil)))
      (pss_cons (ps_if (pt_cmpR op_isU (pv 4) pe_non (nomark _)) (pss_one (ps_ret pe_str)) pss_nil)
      (C8.pss_cut (ps_if (PW.pt (pw_and (pt_cmpR (op_eqU (hr.units)) (pv 2) (pe_glob rfl T.g_UNLESS ⟨_, rfl⟩) (nomark _)) (pw_and1 (pt_cmpR (op_eqU (hr.units)) (pe_ix ix_seq (pv 4) pe_int (fun _ _ => rfl)) pe_int (nomark _))))) (pss_one (ps_fld (pv 1) (pv 3) rfl)) pss_nil)
      (C8.pss_cut (ps_if (pt_cmpR (op_eqU (hr.units)) (pv 2) (pe_glob rfl T.g_PICK ⟨_, rfl⟩) (nomark _)) (pss_cons (ps_set (i := 5) sc_Machine_led.nd rfl (Or.inl rfl) (pe_op op_sub (pv 3) pe_int))
      (C8.pss_cut (ps_if (pt_chain op_le op_lt pe_int (pe_ix ix_seq (pv 4) pe_int (fun _ _ => rfl)) (pv 3)) (pss_one (ps_set (i := 5) sc_Machine_led.nd rfl (Or.inl rfl) (pe_ix ix_seq (pv 4) pe_int (fun _ _ => rfl)))) pss_nil)
      (pss_one (ps_fld (pv 1) (pe_op op_addU (pe_fld (pv 1) rfl) (pv 5)) rfl)))) pss_nil)
      (pss_one (ps_ret pe_non))))))

theorem sc_Machine_plain_row : FnScope nm_Machine_plain_row ["self", "frame", "op", "number"] (defScope st_Machine_plain_row) := ⟨rfl, rfl, rfl, by decide +kernel, rfl, by decide +kernel, by decide +kernel⟩
theorem ok_Machine_plain_row {P : Program} {w : World} {base : Heap} {Z : Adr} (T : Top Z) (G_Frame_lay : FnOk P w Z.K Z.mg base (L2.CX P w) 1 Z.f_Frame_lay Z.d_Frame_lay ["self", "value"] (sp_Frame_lay Z)) (G_Machine_breathe : FnOk P w Z.K Z.mg base (L2.CX P w) 1 Z.f_Machine_breathe Z.d_Machine_breathe ["self"] (sp_Machine_breathe Z)) : FnOk P w Z.K Z.mg base (L2.CX P w) 2 Z.f_Machine_plain_row Z.d_Machine_plain_row ["self", "frame", "op", "number"] (sp_Machine_plain_row Z) := by
  refine FnOk.mono (T.F_Machine_plain_row.okX (k := 1) sc_Machine_plain_row (fun vs H Q E h => ?_) (fun cdv A outer s H vs Q E hr h => ?_)) (by decide)
  · obtain ⟨a0, a1, a2, a3, rfl, _⟩ := h; rfl
  · obtain ⟨a0, a1, a2, a3, rfl, h⟩ := h
    have tk : Takes (cxOf (L2.CX P w) P w Z.K Z.mg base nm_Machine_plain_row "Machine.plain_row" (defScope st_Machine_plain_row) Z.f_Machine_plain_row cdv A outer s H E) (fun cls d _ H => E cls d H) := takes_of rfl rfl rfl rfl
    have po : PassesOwn (model P w) (cxOf (L2.CX P w) P w Z.K Z.mg base nm_Machine_plain_row "Machine.plain_row" (defScope st_Machine_plain_row) Z.f_Machine_plain_row cdv A outer s H E).A (cxOf (L2.CX P w) P w Z.K Z.mg base nm_Machine_plain_row "Machine.plain_row" (defScope st_Machine_plain_row) Z.f_Machine_plain_row cdv A outer s H E).env (cxOf (L2.CX P w) P w Z.K Z.mg base nm_Machine_plain_row "Machine.plain_row" (defScope st_Machine_plain_row) Z.f_Machine_plain_row cdv A outer s H E).xe := passes_of rfl
    refine ⟨t_Machine_plain_row Z (fun cls d _ H => E cls d H), ?_, rd_Machine_plain_row T h⟩
    exact (C8.pss_cut (ps_if (pt_cmpR (op_eqU (hr.units)) (pv 2) (pe_glob rfl T.g_PUSH_codes ⟨_, rfl⟩) (nomark _)) (pss_one (ps_expr (pe_methZ (pv 1) T.cl_Frame T.mt_Frame_lay G_Frame_lay (hr.mono (by decide)) T.b_Frame_lay (fun σ => passAt tk σ) (pa_cons (pv 3) pa_nil)))) pss_nil)
      (C8.pss_cut (ps_if (pt_cmpR (op_eqU (hr.units)) (pv 2) (pe_glob rfl T.g_JUMP ⟨_, rfl⟩) (nomark _)) (pss_one (ps_fld (pv 1) (pv 3) rfl)) pss_nil)
      (pss_cons (ps_if (pt_cmpR (op_eqU (hr.units)) (pv 2) (pe_glob rfl T.g_BREATH ⟨_, rfl⟩) (nomark _)) (pss_one (ps_ret (pe_meth0Z (pv 0) T.cl_Machine T.mt_Machine_breathe G_Machine_breathe (hr.mono (by decide)) T.b_Machine_breathe (fun σ => passAt tk σ)))) pss_nil)
      (pss_one (ps_ret pe_non)))))

theorem sc_Machine_step : FnScope nm_Machine_step ["self", "frame"] (defScope st_Machine_step) := ⟨rfl, rfl, rfl, by decide +kernel, rfl, by decide +kernel, by decide +kernel⟩
theorem ok_Machine_step {P : Program} {w : World} {base : Heap} {Z : Adr} (T : Top Z) (G_Machine_boxed : FnOk P w Z.K Z.mg base (L2.CX P w) 2 Z.f_Machine_boxed Z.d_Machine_boxed ["self", "frame", "op", "box"] (sp_Machine_boxed Z)) (G_Machine_led : FnOk P w Z.K Z.mg base (L2.CX P w) 2 Z.f_Machine_led Z.d_Machine_led ["self", "frame", "op", "number"] (sp_Machine_led Z)) (G_Machine_call : FnOk P w Z.K Z.mg base (L2.CX P w) 4 Z.f_Machine_call Z.d_Machine_call ["self", "frame", "function"] (sp_Machine_call Z)) (G_Machine_back : FnOk P w Z.K Z.mg base (L2.CX P w) 2 Z.f_Machine_back Z.d_Machine_back ["self", "frame"] (sp_Machine_back Z)) (G_Machine_fail : FnOk P w Z.K Z.mg base (L2.CX P w) 2 Z.f_Machine_fail Z.d_Machine_fail ["self", "frame"] (sp_Machine_fail Z)) (G_Machine_deed : FnOk P w Z.K Z.mg base (L2.CX P w) 4 Z.f_Machine_deed Z.d_Machine_deed ["self", "frame", "kind"] (sp_Machine_deed Z)) (G_Machine_plain_row : FnOk P w Z.K Z.mg base (L2.CX P w) 2 Z.f_Machine_plain_row Z.d_Machine_plain_row ["self", "frame", "op", "number"] (sp_Machine_plain_row Z)) : FnOk P w Z.K Z.mg base (L2.CX P w) 5 Z.f_Machine_step Z.d_Machine_step ["self", "frame"] (sp_Machine_step Z) := by
  refine FnOk.mono (T.F_Machine_step.okX (k := 4) sc_Machine_step (fun vs H Q E h => ?_) (fun cdv A outer s H vs Q E hr h => ?_)) (by decide)
  · obtain ⟨a0, a1, rfl, _⟩ := h; rfl
  · obtain ⟨a0, a1, rfl, h⟩ := h
    have tk : Takes (cxOf (L2.CX P w) P w Z.K Z.mg base nm_Machine_step "Machine.step" (defScope st_Machine_step) Z.f_Machine_step cdv A outer s H E) (fun cls d _ H => E cls d H) := takes_of rfl rfl rfl rfl
    have po : PassesOwn (model P w) (cxOf (L2.CX P w) P w Z.K Z.mg base nm_Machine_step "Machine.step" (defScope st_Machine_step) Z.f_Machine_step cdv A outer s H E).A (cxOf (L2.CX P w) P w Z.K Z.mg base nm_Machine_step "Machine.step" (defScope st_Machine_step) Z.f_Machine_step cdv A outer s H E).env (cxOf (L2.CX P w) P w Z.K Z.mg base nm_Machine_step "Machine.step" (defScope st_Machine_step) Z.f_Machine_step cdv A outer s H E).xe := passes_of rfl
    refine ⟨t_Machine_step Z (fun cls d _ H => E cls d H), ?_, rd_Machine_step T h⟩
    exact (pss_cons (ps_asg (pe_ix ix_seq (pe_fld (pv 0) rfl) (pe_fld (pv 1) rfl) (fun _ _ => rfl)) (pg_un rfl (pgs_cons (pg_name (i := 2) sc_Machine_step.nd rfl (Or.inl rfl)) (pgs_cons (pg_name (i := 3) sc_Machine_step.nd rfl (Or.inl rfl)) pgs_nil))))
      (pss_cons (ps_fld (pv 1) (pe_op op_addU (pe_fld (pv 1) rfl) pe_int) rfl)
      (pss_cons (ps_if (pt_cmpR op_in_seq (pv 2) (pe_tup (pa_cons (pe_glob rfl T.g_GET ⟨_, rfl⟩) (pa_cons (pe_glob rfl T.g_SET ⟨_, rfl⟩) pa_nil))) (by rfl)) (pss_one (ps_ret (pe_methZ (pv 0) T.cl_Machine T.mt_Machine_boxed G_Machine_boxed (hr.mono (by decide)) T.b_Machine_boxed (fun σ => passAt tk σ) (pa_cons (pv 1) (pa_cons (pv 2) (pa_cons (pv 3) pa_nil)))))) pss_nil)
      (pss_cons (ps_if (pt_cmpR op_in_seq (pv 2) (pe_tup (pa_cons (pe_glob rfl T.g_DROP ⟨_, rfl⟩) (pa_cons (pe_glob rfl T.g_UNLESS ⟨_, rfl⟩) (pa_cons (pe_glob rfl T.g_PICK ⟨_, rfl⟩) pa_nil)))) (by rfl)) (pss_one (ps_ret (pe_methZ (pv 0) T.cl_Machine T.mt_Machine_led G_Machine_led (hr.mono (by decide)) T.b_Machine_led (fun σ => passAt tk σ) (pa_cons (pv 1) (pa_cons (pv 2) (pa_cons (pv 3) pa_nil)))))) pss_nil)
      (pss_cons (ps_if (pt_cmpR (op_eqU (hr.units)) (pv 2) (pe_glob rfl T.g_CALL ⟨_, rfl⟩) (nomark _)) (pss_one (ps_ret (pe_methZ (pv 0) T.cl_Machine T.mt_Machine_call G_Machine_call (hr.mono (by decide)) T.b_Machine_call (fun σ => passAt tk σ) (pa_cons (pv 1) (pa_cons (pv 3) pa_nil))))) pss_nil)
      (pss_cons (ps_if (pt_cmpR (op_eqU (hr.units)) (pv 2) (pe_glob rfl T.g_BACK ⟨_, rfl⟩) (nomark _)) (pss_one (ps_ret (pe_methZ (pv 0) T.cl_Machine T.mt_Machine_back G_Machine_back (hr.mono (by decide)) T.b_Machine_back (fun σ => passAt tk σ) (pa_cons (pv 1) pa_nil)))) pss_nil)
      (pss_cons (ps_if (pt_cmpR (op_eqU (hr.units)) (pv 2) (pe_glob rfl T.g_FAIL_codes ⟨_, rfl⟩) (nomark _)) (pss_one (ps_ret (pe_methZ (pv 0) T.cl_Machine T.mt_Machine_fail G_Machine_fail (hr.mono (by decide)) T.b_Machine_fail (fun σ => passAt tk σ) (pa_cons (pv 1) pa_nil)))) pss_nil)
      (pss_cons (ps_if (pt_cmpR (op_eqU (hr.units)) (pv 2) (pe_glob rfl T.g_DO ⟨_, rfl⟩) (nomark _)) (pss_one (ps_ret (pe_methZ (pv 0) T.cl_Machine T.mt_Machine_deed G_Machine_deed (hr.mono (by decide)) T.b_Machine_deed (fun σ => passAt tk σ) (pa_cons (pv 1) (pa_cons (pv 3) pa_nil))))) pss_nil)
      (pss_one (ps_ret (pe_methZ (pv 0) T.cl_Machine T.mt_Machine_plain_row G_Machine_plain_row (hr.mono (by decide)) T.b_Machine_plain_row (fun σ => passAt tk σ) (pa_cons (pv 1) (pa_cons (pv 2) (pa_cons (pv 3) pa_nil))))))))))))))

theorem sc_Machine_go_on : FnScope nm_Machine_go_on ["self", "most"] (defScope st_Machine_go_on) := ⟨rfl, rfl, rfl, by decide +kernel, rfl, by decide +kernel, by decide +kernel⟩
theorem ok_Machine_go_on {P : Program} {w : World} {base : Heap} {Z : Adr} (T : Top Z) (G_Machine_breathe : FnOk P w Z.K Z.mg base (L2.CX P w) 1 Z.f_Machine_breathe Z.d_Machine_breathe ["self"] (sp_Machine_breathe Z)) (G_Machine_begin : FnOk P w Z.K Z.mg base (L2.CX P w) 3 Z.f_Machine_begin Z.d_Machine_begin ["self", "function", "params"] (sp_Machine_begin Z)) (G_Machine_step : FnOk P w Z.K Z.mg base (L2.CX P w) 5 Z.f_Machine_step Z.d_Machine_step ["self", "frame"] (sp_Machine_step Z)) : FnOk P w Z.K Z.mg base (L2.CX P w) 6 Z.f_Machine_go_on Z.d_Machine_go_on ["self", "most"] (sp_Machine_go_on Z) := by
  refine FnOk.mono (T.F_Machine_go_on.okX (k := 5) sc_Machine_go_on (fun vs H Q E h => ?_) (fun cdv A outer s H vs Q E hr h => ?_)) (by decide)
  · obtain ⟨a0, a1, rfl, _⟩ := h; rfl
  · obtain ⟨a0, a1, rfl, h⟩ := h
    have tk : Takes (cxOf (L2.CX P w) P w Z.K Z.mg base nm_Machine_go_on "Machine.go_on" (defScope st_Machine_go_on) Z.f_Machine_go_on cdv A outer s H E) (fun cls d _ H => E cls d H) := takes_of rfl rfl rfl rfl
    have po : PassesOwn (model P w) (cxOf (L2.CX P w) P w Z.K Z.mg base nm_Machine_go_on "Machine.go_on" (defScope st_Machine_go_on) Z.f_Machine_go_on cdv A outer s H E).A (cxOf (L2.CX P w) P w Z.K Z.mg base nm_Machine_go_on "Machine.go_on" (defScope st_Machine_go_on) Z.f_Machine_go_on cdv A outer s H E).env (cxOf (L2.CX P w) P w Z.K Z.mg base nm_Machine_go_on "Machine.go_on" (defScope st_Machine_go_on) Z.f_Machine_go_on cdv A outer s H E).xe := passes_of rfl
    refine ⟨t_Machine_go_on Z (fun cls d _ H => E cls d H), ?_, rd_Machine_go_on T h⟩
    exact (pss_cons (ps_set (i := 2) sc_Machine_go_on.nd rfl (Or.inl rfl) (pe_meth0Z (pv 0) T.cl_Machine T.mt_Machine_breathe G_Machine_breathe (hr.mono (by decide)) T.b_Machine_breathe (fun σ => passAt tk σ)))
      (C8.pss_cut (ps_if (pt_cmpR op_isU (pv 2) pe_non (nomark _)) (pss_one (ps_expr (pe_methZ (pv 0) T.cl_Machine T.mt_Machine_begin G_Machine_begin (hr.mono (by decide)) T.b_Machine_begin (fun σ => passAt tk σ) (pa_cons pe_int (pa_cons (pe_lst pa_nil) pa_nil))))) pss_nil)
      (pss_cons (ps_set (i := 3) sc_Machine_go_on.nd rfl (Or.inl rfl) pe_int)
      (pss_cons (ps_while po (pt_cmpR op_isU (pv 2) pe_non (nomark _)) (pss_cons (ps_set (i := 4) sc_Machine_go_on.nd rfl (Or.inl rfl) (pe_ix ix_seq (pe_fld (pv 0) rfl) (pe_un un_neg pe_int) (fun _ _ => rfl)))
      (pss_one (ps_if (pt_cmpR op_ge (pe_fld (pv 4) rfl) (pe_callB call_len' (by rfl) T.n_len (by decide +kernel) (pa_cons (pe_fld (pv 0) rfl) pa_nil)) (nomark _)) (pss_one (ps_set (i := 2) sc_Machine_go_on.nd rfl (Or.inl rfl) pe_str)) (pss_one (ps_if (pt_cmpR op_ge (pv 3) (pv 1) (nomark _)) (pss_one (ps_set (i := 2) sc_Machine_go_on.nd rfl (Or.inl rfl) pe_str)) (pss_cons (ps_set (i := 3) sc_Machine_go_on.nd rfl (Or.inl rfl) (pe_op op_addU (pv 3) pe_int))
      (pss_one (ps_set (i := 2) sc_Machine_go_on.nd rfl (Or.inl rfl) (pe_methZ (pv 0) T.cl_Machine T.mt_Machine_step G_Machine_step (hr.mono (by decide)) T.b_Machine_step (fun σ => passAt tk σ) (pa_cons (pv 4) pa_nil)))))))))))
      (pss_one (ps_ret (pv 2)))))))

theorem sc_go : FnScope nm_go ["code", "given", "breaths", "most"] (defScope st_go) := ⟨rfl, rfl, rfl, by decide +kernel, rfl, by decide +kernel, by decide +kernel⟩
theorem ok_go {P : Program} {w : World} {base : Heap} {Z : Adr} (T : Top Z) (G_Machine_init : FnOk P w Z.K Z.mg base (L2.CX P w) 5 Z.f_Machine_init Z.d_Machine_init ["self", "code", "given", "breaths"] (sp_Machine_init Z)) (G_Machine_go_on : FnOk P w Z.K Z.mg base (L2.CX P w) 6 Z.f_Machine_go_on Z.d_Machine_go_on ["self", "most"] (sp_Machine_go_on Z)) : FnOk P w Z.K Z.mg base (L2.CX P w) 7 Z.f_go Z.d_go ["code", "given", "breaths", "most"] (sp_go Z) := by
  refine FnOk.mono (T.F_go.okX (k := 6) sc_go (fun vs H Q E h => ?_) (fun cdv A outer s H vs Q E hr h => ?_)) (by decide)
  · obtain ⟨a0, a1, a2, a3, rfl, _⟩ := h; rfl
  · obtain ⟨a0, a1, a2, a3, rfl, h⟩ := h
    have tk : Takes (cxOf (L2.CX P w) P w Z.K Z.mg base nm_go "go" (defScope st_go) Z.f_go cdv A outer s H E) (fun cls d _ H => E cls d H) := takes_of rfl rfl rfl rfl
    have po : PassesOwn (model P w) (cxOf (L2.CX P w) P w Z.K Z.mg base nm_go "go" (defScope st_go) Z.f_go cdv A outer s H E).A (cxOf (L2.CX P w) P w Z.K Z.mg base nm_go "go" (defScope st_go) Z.f_go cdv A outer s H E).env (cxOf (L2.CX P w) P w Z.K Z.mg base nm_go "go" (defScope st_go) Z.f_go cdv A outer s H E).xe := passes_of rfl
    refine ⟨t_go Z (fun cls d _ H => E cls d H), ?_, rd_go T h⟩
    exact (pss_cons (ps_set (i := 4) sc_go.nd rfl (Or.inl rfl) (pe_makeZ T.M_Machine G_Machine_init (hr.mono (by decide)) rfl T.g_Machine T.b_Machine_init (fun σ => passAt tk σ) (pa_cons (pv 0) (pa_cons (pv 1) (pa_cons (pv 2) pa_nil)))))
      (pss_cons (ps_set (i := 5) sc_go.nd rfl (Or.inl rfl) (pe_methZ (pv 4) T.cl_Machine T.mt_Machine_go_on G_Machine_go_on (hr.mono (by decide)) T.b_Machine_go_on (fun σ => passAt tk σ) (pa_cons (pv 3) pa_nil)))
      (pss_one (ps_ret (pe_tup (pa_cons (pv 5) (pa_cons (pe_fld (pv 4) rfl) (pa_cons (pe_callTy call_list' (by rfl) T.n_list (by decide +kernel) (pa_cons (pe_ix ix_seq (pe_fld (pv 4) rfl) pe_int (fun _ _ => rfl)) pa_nil)) pa_nil))))))))

theorem sc_Lpen : FnScope nm_Lpen ["_law_script"] (defScope st_Lpen) := ⟨rfl, rfl, rfl, by decide +kernel, rfl, by decide +kernel, by decide +kernel⟩
theorem ok_Lpen {P : Program} {w : World} {base : Heap} {Z : Adr} (T : Top Z)  : FnOk P w Z.K Z.mg base (L2.CX P w) 1 Z.f_Lpen Z.d_Lpen ["_law_script"] (sp_Lpen Z) := by
  refine FnOk.mono (T.F_Lpen.okX (k := 0) sc_Lpen (fun vs H Q E h => ?_) (fun cdv A outer s H vs Q E hr h => ?_)) (by decide)
  · obtain ⟨a0, rfl, _⟩ := h; rfl
  · obtain ⟨a0, rfl, h⟩ := h
    have tk : Takes (cxOf (L2.CX P w) P w Z.K Z.mg base nm_Lpen "_law_pen" (defScope st_Lpen) Z.f_Lpen cdv A outer s H E) (fun cls d _ H => E cls d H) := takes_of rfl rfl rfl rfl
    have po : PassesOwn (model P w) (cxOf (L2.CX P w) P w Z.K Z.mg base nm_Lpen "_law_pen" (defScope st_Lpen) Z.f_Lpen cdv A outer s H E).A (cxOf (L2.CX P w) P w Z.K Z.mg base nm_Lpen "_law_pen" (defScope st_Lpen) Z.f_Lpen cdv A outer s H E).env (cxOf (L2.CX P w) P w Z.K Z.mg base nm_Lpen "_law_pen" (defScope st_Lpen) Z.f_Lpen cdv A outer s H E).xe := passes_of rfl
    refine ⟨t_Lpen Z (fun cls d _ H => E cls d H), ?_, rd_Lpen T h⟩
    exact (pss_one (ps_ret (pe_lst (pa_cons (pv 0) (pa_cons pe_int (pa_cons pe_int (pa_cons pe_int pa_nil)))))))

theorem sc_Lmixed : FnScope nm_Lmixed ["_law_cell", "_law_turn"] (defScope st_Lmixed) := ⟨rfl, rfl, rfl, by decide +kernel, rfl, by decide +kernel, by decide +kernel⟩
theorem ok_Lmixed {P : Program} {w : World} {base : Heap} {Z : Adr} (T : Top Z)  : FnOk P w Z.K Z.mg base (L2.CX P w) 1 Z.f_Lmixed Z.d_Lmixed ["_law_cell", "_law_turn"] (sp_Lmixed Z) := by
  refine FnOk.mono (T.F_Lmixed.okX (k := 0) sc_Lmixed (fun vs H Q E h => ?_) (fun cdv A outer s H vs Q E hr h => ?_)) (by decide)
  · obtain ⟨a0, a1, rfl, _⟩ := h; rfl
  · obtain ⟨a0, a1, rfl, h⟩ := h
    have tk : Takes (cxOf (L2.CX P w) P w Z.K Z.mg base nm_Lmixed "_law_mixed" (defScope st_Lmixed) Z.f_Lmixed cdv A outer s H E) (fun cls d _ H => E cls d H) := takes_of rfl rfl rfl rfl
    have po : PassesOwn (model P w) (cxOf (L2.CX P w) P w Z.K Z.mg base nm_Lmixed "_law_mixed" (defScope st_Lmixed) Z.f_Lmixed cdv A outer s H E).A (cxOf (L2.CX P w) P w Z.K Z.mg base nm_Lmixed "_law_mixed" (defScope st_Lmixed) Z.f_Lmixed cdv A outer s H E).env (cxOf (L2.CX P w) P w Z.K Z.mg base nm_Lmixed "_law_mixed" (defScope st_Lmixed) Z.f_Lmixed cdv A outer s H E).xe := passes_of rfl
    refine ⟨t_Lmixed Z (fun cls d _ H => E cls d H), ?_, rd_Lmixed T h⟩
    exact (pss_cons (ps_set (i := 2) sc_Lmixed.nd rfl (Or.inl rfl) (pe_op op_md (pe_op op_ml (pe_op op_addU (pe_op op_addU (pe_op op_md (pv 0) pe_int) (pe_op op_ml pe_int (pv 1))) pe_int) pe_int) pe_int))
      (pss_one (ps_ret (pe_op op_fdv (pe_op op_md (pe_op op_ml (pv 2) (pe_op op_addU (pe_op op_addU (pe_op op_md (pv 2) pe_int) (pv 1)) pe_int)) pe_int) pe_int))))

theorem sc_Ltake : FnScope nm_Ltake ["_law_pen_here", "_law_many"] (defScope st_Ltake) := ⟨rfl, rfl, rfl, by decide +kernel, rfl, by decide +kernel, by decide +kernel⟩
theorem ok_Ltake {P : Program} {w : World} {base : Heap} {Z : Adr} (T : Top Z) (G_Lmixed : FnOk P w Z.K Z.mg base (L2.CX P w) 1 Z.f_Lmixed Z.d_Lmixed ["_law_cell", "_law_turn"] (sp_Lmixed Z)) : FnOk P w Z.K Z.mg base (L2.CX P w) 2 Z.f_Ltake Z.d_Ltake ["_law_pen_here", "_law_many"] (sp_Ltake Z) := by
  refine FnOk.mono (T.F_Ltake.okX (k := 1) sc_Ltake (fun vs H Q E h => ?_) (fun cdv A outer s H vs Q E hr h => ?_)) (by decide)
  · obtain ⟨a0, a1, rfl, _⟩ := h; rfl
  · obtain ⟨a0, a1, rfl, h⟩ := h
    have tk : Takes (cxOf (L2.CX P w) P w Z.K Z.mg base nm_Ltake "_law_take" (defScope st_Ltake) Z.f_Ltake cdv A outer s H E) (fun cls d _ H => E cls d H) := takes_of rfl rfl rfl rfl
    have po : PassesOwn (model P w) (cxOf (L2.CX P w) P w Z.K Z.mg base nm_Ltake "_law_take" (defScope st_Ltake) Z.f_Ltake cdv A outer s H E).A (cxOf (L2.CX P w) P w Z.K Z.mg base nm_Ltake "_law_take" (defScope st_Ltake) Z.f_Ltake cdv A outer s H E).env (cxOf (L2.CX P w) P w Z.K Z.mg base nm_Ltake "_law_take" (defScope st_Ltake) Z.f_Ltake cdv A outer s H E).xe := passes_of rfl
    refine ⟨t_Ltake Z (fun cls d _ H => E cls d H), ?_, rd_Ltake T h⟩
    exact (C8.pss_cut (ps_if (pt_cmpR (op_eqU (hr.units)) (pe_ix ix_seq (pv 0) pe_int (fun _ _ => rfl)) pe_int (nomark _)) (pss_cons (ps_set (i := 2) sc_Ltake.nd rfl (Or.inl rfl) pe_int)
      (C8.pss_cut (ps_if (pt_cmpR op_gt (pe_callB call_len' (by rfl) T.n_len (by decide +kernel) (pa_cons (pe_ix ix_seq (pv 0) pe_int (fun _ _ => rfl)) pa_nil)) pe_int (nomark _)) (pss_one (ps_set (i := 2) sc_Ltake.nd rfl (Or.inl rfl) (pe_ix ix_seq (pe_ix ix_seq (pv 0) pe_int (fun _ _ => rfl)) (pe_op op_md (pe_ix ix_seq (pv 0) pe_int (fun _ _ => rfl)) (pe_callB call_len' (by rfl) T.n_len (by decide +kernel) (pa_cons (pe_ix ix_seq (pv 0) pe_int (fun _ _ => rfl)) pa_nil))) (fun _ _ => rfl)))) pss_nil)
      (pss_cons (ps_asg (pe_op op_addU (pe_ix ix_seq (pv 0) pe_int (fun _ _ => rfl)) pe_int) (pg_sub (pv 0) pe_int set_list))
      (pss_cons (ps_if (PW.pt (pw_or (pt_cmpR op_lt (pv 2) (pe_powc (by unfold CPow; decide) (by decide +kernel)) (nomark _)) (pw_or1 (pt_cmpR op_gt (pe_ix ix_seq (pv 0) pe_int (fun _ _ => rfl)) (pe_callB call_len' (by rfl) T.n_len (by decide +kernel) (pa_cons (pe_ix ix_seq (pv 0) pe_int (fun _ _ => rfl)) pa_nil)) (nomark _))))) (pss_cons (ps_asg (pe_op op_addU (pe_ix ix_seq (pv 0) pe_int (fun _ _ => rfl)) pe_int) (pg_sub (pv 0) pe_int set_list))
      (pss_one (ps_ret (pe_op op_md (pe_callS G_Lmixed (hr.mono (by decide)) rfl T.m_Lmixed T.k_Lmixed T.b_Lmixed (fun σ => passAt tk σ) (pa_cons (pv 2) (pa_cons (pe_ix ix_seq (pv 0) pe_int (fun _ _ => rfl)) pa_nil))) (pv 1))))) pss_nil)
      (pss_one (ps_asg (pv 2) (pg_sub (pv 0) pe_int set_list))))))) pss_nil)
      (pss_cons (ps_set (i := 3) sc_Ltake.nd rfl (Or.inl rfl) (pe_op op_md (pe_ix ix_seq (pv 0) pe_int (fun _ _ => rfl)) (pv 1)))
      (pss_cons (ps_asg (pe_op op_fdv (pe_ix ix_seq (pv 0) pe_int (fun _ _ => rfl)) (pv 1)) (pg_sub (pv 0) pe_int set_list))
      (pss_one (ps_ret (pv 3))))))

theorem sc_Lnumber : FnScope nm_Lnumber ["_law_pen_here"] (defScope st_Lnumber) := ⟨rfl, rfl, rfl, by decide +kernel, rfl, by decide +kernel, by decide +kernel⟩
theorem ok_Lnumber {P : Program} {w : World} {base : Heap} {Z : Adr} (T : Top Z) (G_Ltake : FnOk P w Z.K Z.mg base (L2.CX P w) 2 Z.f_Ltake Z.d_Ltake ["_law_pen_here", "_law_many"] (sp_Ltake Z)) : FnOk P w Z.K Z.mg base (L2.CX P w) 3 Z.f_Lnumber Z.d_Lnumber ["_law_pen_here"] (sp_Lnumber Z) := by
  refine FnOk.mono (T.F_Lnumber.okX (k := 2) sc_Lnumber (fun vs H Q E h => ?_) (fun cdv A outer s H vs Q E hr h => ?_)) (by decide)
  · obtain ⟨a0, rfl, _⟩ := h; rfl
  · obtain ⟨a0, rfl, h⟩ := h
    have tk : Takes (cxOf (L2.CX P w) P w Z.K Z.mg base nm_Lnumber "_law_number" (defScope st_Lnumber) Z.f_Lnumber cdv A outer s H E) (fun cls d _ H => E cls d H) := takes_of rfl rfl rfl rfl
    have po : PassesOwn (model P w) (cxOf (L2.CX P w) P w Z.K Z.mg base nm_Lnumber "_law_number" (defScope st_Lnumber) Z.f_Lnumber cdv A outer s H E).A (cxOf (L2.CX P w) P w Z.K Z.mg base nm_Lnumber "_law_number" (defScope st_Lnumber) Z.f_Lnumber cdv A outer s H E).env (cxOf (L2.CX P w) P w Z.K Z.mg base nm_Lnumber "_law_number" (defScope st_Lnumber) Z.f_Lnumber cdv A outer s H E).xe := passes_of rfl
    refine ⟨t_Lnumber Z (fun cls d _ H => E cls d H), ?_, rd_Lnumber T h⟩
    exact (pss_cons (ps_if (pt_cmpR (op_eqU (hr.units)) (pe_callS G_Ltake (hr.mono (by decide)) rfl T.m_Ltake T.k_Ltake T.b_Ltake (fun σ => passAt tk σ) (pa_cons (pv 0) (pa_cons pe_int pa_nil))) pe_int (nomark _)) (pss_one (ps_ret (pe_ix ix_seq (pe_lst (pa_cons (pe_powc (by unfold CPow; decide) (by decide +kernel)) (pa_cons (pe_op op_sub pe_int (pe_powc (by unfold CPow; decide) (by decide +kernel))) (pa_cons (pe_op op_sub (pe_powc (by unfold CPow; decide) (by decide +kernel)) pe_int) (pa_cons (pe_op op_sub pe_int pe_int) pa_nil))))) (pe_callS G_Ltake (hr.mono (by decide)) rfl T.m_Ltake T.k_Ltake T.b_Ltake (fun σ => passAt tk σ) (pa_cons (pv 0) (pa_cons pe_int pa_nil))) (fun _ _ => rfl)))) pss_nil)
      (pss_one (ps_ret (pe_op op_sub (pe_callS G_Ltake (hr.mono (by decide)) rfl T.m_Ltake T.k_Ltake T.b_Ltake (fun σ => passAt tk σ) (pa_cons (pv 0) (pa_cons pe_int pa_nil))) pe_int))))

theorem sc_Lneeds : FnScope nm_Lneeds ["_law_op", "_law_number_here", "_law_heads"] (defScope st_Lneeds) := ⟨rfl, rfl, rfl, by decide +kernel, rfl, by decide +kernel, by decide +kernel⟩
theorem ok_Lneeds {P : Program} {w : World} {base : Heap} {Z : Adr} (T : Top Z)  : FnOk P w Z.K Z.mg base (L2.CX P w) 1 Z.f_Lneeds Z.d_Lneeds ["_law_op", "_law_number_here", "_law_heads"] (sp_Lneeds Z) := by
  refine FnOk.mono (T.F_Lneeds.okX (k := 0) sc_Lneeds (fun vs H Q E h => ?_) (fun cdv A outer s H vs Q E hr h => ?_)) (by decide)
  · obtain ⟨a0, a1, a2, rfl, _⟩ := h; rfl
  · obtain ⟨a0, a1, a2, rfl, h⟩ := h
    have tk : Takes (cxOf (L2.CX P w) P w Z.K Z.mg base nm_Lneeds "_law_needs" (defScope st_Lneeds) Z.f_Lneeds cdv A outer s H E) (fun cls d _ H => E cls d H) := takes_of rfl rfl rfl rfl
    have po : PassesOwn (model P w) (cxOf (L2.CX P w) P w Z.K Z.mg base nm_Lneeds "_law_needs" (defScope st_Lneeds) Z.f_Lneeds cdv A outer s H E).A (cxOf (L2.CX P w) P w Z.K Z.mg base nm_Lneeds "_law_needs" (defScope st_Lneeds) Z.f_Lneeds cdv A outer s H E).env (cxOf (L2.CX P w) P w Z.K Z.mg base nm_Lneeds "_law_needs" (defScope st_Lneeds) Z.f_Lneeds cdv A outer s H E).xe := passes_of rfl
    refine ⟨t_Lneeds Z (fun cls d _ H => E cls d H), ?_, rd_Lneeds T h⟩
    exact (pss_cons (ps_if (pt_cmpR (op_eqU (hr.units)) (pv 0) pe_int (nomark _)) (pss_one (ps_ret (pe_ix ix_seq (pe_ix ix_seq (pv 2) (pv 1) (fun _ _ => rfl)) pe_int (fun _ _ => rfl)))) pss_nil)
      (pss_cons (ps_if (pt_cmpR (op_eqU (hr.units)) (pv 0) pe_int (nomark _)) (pss_one (ps_ret (pe_ix ix_seq (pe_lst (pa_cons pe_int (pa_cons pe_int (pa_cons pe_int (pa_cons pe_int (pa_cons pe_int (pa_cons pe_int (pa_cons pe_int (pa_cons pe_int (pa_cons pe_int (pa_cons pe_int (pa_cons pe_int (pa_cons pe_int pa_nil))))))))))))) (pe_op op_sub (pv 1) pe_int) (fun _ _ => rfl)))) pss_nil)
      (pss_one (ps_ret (pe_ix ix_seq (pe_lst (pa_cons pe_int (pa_cons pe_int (pa_cons pe_int (pa_cons pe_int (pa_cons pe_int (pa_cons pe_int (pa_cons pe_int (pa_cons pe_int (pa_cons pe_int (pa_cons pe_int (pa_cons pe_int (pa_cons pe_int pa_nil))))))))))))) (pv 0) (fun _ _ => rfl))))))

theorem sc_Lrow : FnScope nm_Lrow ["_law_pen_here", "_law_height_here", "_law_many", "_law_heads"] (defScope st_Lrow) := ⟨rfl, rfl, rfl, by decide +kernel, rfl, by decide +kernel, by decide +kernel⟩
theorem ok_Lrow {P : Program} {w : World} {base : Heap} {Z : Adr} (T : Top Z) (G_Ltake : FnOk P w Z.K Z.mg base (L2.CX P w) 2 Z.f_Ltake Z.d_Ltake ["_law_pen_here", "_law_many"] (sp_Ltake Z)) (G_Lnumber : FnOk P w Z.K Z.mg base (L2.CX P w) 3 Z.f_Lnumber Z.d_Lnumber ["_law_pen_here"] (sp_Lnumber Z)) (G_Lneeds : FnOk P w Z.K Z.mg base (L2.CX P w) 1 Z.f_Lneeds Z.d_Lneeds ["_law_op", "_law_number_here", "_law_heads"] (sp_Lneeds Z)) : FnOk P w Z.K Z.mg base (L2.CX P w) 4 Z.f_Lrow Z.d_Lrow ["_law_pen_here", "_law_height_here", "_law_many", "_law_heads"] (sp_Lrow Z) := by
  refine FnOk.mono (T.F_Lrow.okX (k := 3) sc_Lrow (fun vs H Q E h => ?_) (fun cdv A outer s H vs Q E hr h => ?_)) (by decide)
  · obtain ⟨a0, a1, a2, a3, rfl, _⟩ := h; rfl
  · obtain ⟨a0, a1, a2, a3, rfl, h⟩ := h
    have tk : Takes (cxOf (L2.CX P w) P w Z.K Z.mg base nm_Lrow "_law_row" (defScope st_Lrow) Z.f_Lrow cdv A outer s H E) (fun cls d _ H => E cls d H) := takes_of rfl rfl rfl rfl
    have po : PassesOwn (model P w) (cxOf (L2.CX P w) P w Z.K Z.mg base nm_Lrow "_law_row" (defScope st_Lrow) Z.f_Lrow cdv A outer s H E).A (cxOf (L2.CX P w) P w Z.K Z.mg base nm_Lrow "_law_row" (defScope st_Lrow) Z.f_Lrow cdv A outer s H E).env (cxOf (L2.CX P w) P w Z.K Z.mg base nm_Lrow "_law_row" (defScope st_Lrow) Z.f_Lrow cdv A outer s H E).xe := passes_of rfl
    refine ⟨t_Lrow Z (fun cls d _ H => E cls d H), ?_, rd_Lrow T h⟩
    exact (pss_cons (ps_set (i := 4) sc_Lrow.nd rfl (Or.inl rfl) (pe_ix ix_seq (pe_lst (pa_cons pe_int (pa_cons pe_int (pa_cons pe_int (pa_cons pe_int (pa_cons pe_int (pa_cons pe_int (pa_cons pe_int (pa_cons pe_int (pa_cons pe_int (pa_cons pe_int (pa_cons pe_int (pa_cons pe_int (pa_cons pe_int (pa_cons pe_int (pa_cons pe_int (pa_cons pe_int (pa_cons pe_int (pa_cons pe_int (pa_cons pe_int (pa_cons pe_int pa_nil))))))))))))))))))))) (pe_callS G_Ltake (hr.mono (by decide)) rfl T.m_Ltake T.k_Ltake T.b_Ltake (fun σ => passAt tk σ) (pa_cons (pv 0) (pa_cons pe_int pa_nil))) (fun _ _ => rfl)))
      (pss_cons (ps_set (i := 5) sc_Lrow.nd rfl (Or.inl rfl) pe_int)
      (C8.pss_cut (ps_if (pt_cmpR (op_eqU (hr.units)) (pv 4) pe_int (nomark _)) (pss_one (ps_set (i := 5) sc_Lrow.nd rfl (Or.inl rfl) (pe_callS G_Lnumber (hr.mono (by decide)) rfl T.m_Lnumber T.k_Lnumber T.b_Lnumber (fun σ => passAt tk σ) (pa_cons (pv 0) pa_nil)))) pss_nil)
      (C8.pss_cut (ps_if (pt_cmpR op_in_seq (pv 4) (pe_tup (pa_cons pe_int (pa_cons pe_int pa_nil))) (by rfl)) (pss_one (ps_set (i := 5) sc_Lrow.nd rfl (Or.inl rfl) (pe_callS G_Ltake (hr.mono (by decide)) rfl T.m_Ltake T.k_Ltake T.b_Ltake (fun σ => passAt tk σ) (pa_cons (pv 0) (pa_cons (pe_ix ix_seq (pe_lst (pa_cons pe_int (pa_cons pe_int (pa_cons pe_int pa_nil)))) (pe_callS G_Ltake (hr.mono (by decide)) rfl T.m_Ltake T.k_Ltake T.b_Ltake (fun σ => passAt tk σ) (pa_cons (pv 0) (pa_cons pe_int pa_nil))) (fun _ _ => rfl)) pa_nil))))) pss_nil)
      (C8.pss_cut (ps_if (pt_cmpR op_in_seq (pv 4) (pe_tup (pa_cons pe_int (pa_cons pe_int pa_nil))) (by rfl)) (pss_one (ps_set (i := 5) sc_Lrow.nd rfl (Or.inl rfl) (pe_callS G_Ltake (hr.mono (by decide)) rfl T.m_Ltake T.k_Ltake T.b_Ltake (fun σ => passAt tk σ) (pa_cons (pv 0) (pa_cons (pv 2) pa_nil))))) pss_nil)
      (C8.pss_cut (ps_if (pt_cmpR (op_eqU (hr.units)) (pv 4) pe_int (nomark _)) (pss_one (ps_set (i := 5) sc_Lrow.nd rfl (Or.inl rfl) (pe_callS G_Ltake (hr.mono (by decide)) rfl T.m_Ltake T.k_Ltake T.b_Ltake (fun σ => passAt tk σ) (pa_cons (pv 0) (pa_cons (pe_callB call_len' (by rfl) T.n_len (by decide +kernel) (pa_cons (pv 3) pa_nil)) pa_nil))))) pss_nil)
      (C8.pss_cut (ps_if (pt_cmpR (op_eqU (hr.units)) (pv 4) pe_int (nomark _)) (pss_one (ps_set (i := 5) sc_Lrow.nd rfl (Or.inl rfl) (pe_op op_addU pe_int (pe_callS G_Ltake (hr.mono (by decide)) rfl T.m_Ltake T.k_Ltake T.b_Ltake (fun σ => passAt tk σ) (pa_cons (pv 0) (pa_cons pe_int pa_nil)))))) pss_nil)
      (C8.pss_cut (ps_if (pt_cmpR (op_eqU (hr.units)) (pv 4) pe_int (nomark _)) (pss_one (ps_set (i := 5) sc_Lrow.nd rfl (Or.inl rfl) (pe_ix ix_seq (pe_lst (pa_cons pe_int (pa_cons pe_int (pa_cons (pe_op op_addU pe_int (pe_callS G_Ltake (hr.mono (by decide)) rfl T.m_Ltake T.k_Ltake T.b_Ltake (fun σ => passAt tk σ) (pa_cons (pv 0) (pa_cons pe_int pa_nil)))) pa_nil)))) (pe_callS G_Ltake (hr.mono (by decide)) rfl T.m_Ltake T.k_Ltake T.b_Ltake (fun σ => passAt tk σ) (pa_cons (pv 0) (pa_cons pe_int pa_nil))) (fun _ _ => rfl)))) pss_nil)
      (pss_cons (ps_if (PW.pt (pw_and (pt_cmpR op_lt (pv 1) (pe_callS G_Lneeds (hr.mono (by decide)) rfl T.m_Lneeds T.k_Lneeds T.b_Lneeds (fun σ => passAt tk σ) (pa_cons (pv 4) (pa_cons (pv 5) (pa_cons (pv 3) pa_nil)))) (nomark _)) (pw_and1 (pt_cmpR op_gt (pe_callS G_Ltake (hr.mono (by decide)) rfl T.m_Ltake T.k_Ltake T.b_Ltake (fun σ => passAt tk σ) (pa_cons (pv 0) (pa_cons pe_int pa_nil))) pe_int (nomark _))))) (pss_one (ps_ret (pe_tup (pa_cons pe_int (pa_cons (pe_callS G_Lnumber (hr.mono (by decide)) rfl T.m_Lnumber T.k_Lnumber T.b_Lnumber (fun σ => passAt tk σ) (pa_cons (pv 0) pa_nil)) pa_nil))))) pss_nil)
      (pss_one (ps_ret (pe_tup (pa_cons (pv 4) (pa_cons (pv 5) pa_nil))))))))))))))

theorem sc_Lheight : FnScope nm_Lheight ["_law_op", "_law_number_here", "_law_heads", "_law_height_here"] (defScope st_Lheight) := ⟨rfl, rfl, rfl, by decide +kernel, rfl, by decide +kernel, by decide +kernel⟩
theorem ok_Lheight {P : Program} {w : World} {base : Heap} {Z : Adr} (T : Top Z) (G_Lneeds : FnOk P w Z.K Z.mg base (L2.CX P w) 1 Z.f_Lneeds Z.d_Lneeds ["_law_op", "_law_number_here", "_law_heads"] (sp_Lneeds Z)) : FnOk P w Z.K Z.mg base (L2.CX P w) 2 Z.f_Lheight Z.d_Lheight ["_law_op", "_law_number_here", "_law_heads", "_law_height_here"] (sp_Lheight Z) := by
  refine FnOk.mono (T.F_Lheight.okX (k := 1) sc_Lheight (fun vs H Q E h => ?_) (fun cdv A outer s H vs Q E hr h => ?_)) (by decide)
  · obtain ⟨a0, a1, a2, a3, rfl, _⟩ := h; rfl
  · obtain ⟨a0, a1, a2, a3, rfl, h⟩ := h
    have tk : Takes (cxOf (L2.CX P w) P w Z.K Z.mg base nm_Lheight "_law_height" (defScope st_Lheight) Z.f_Lheight cdv A outer s H E) (fun cls d _ H => E cls d H) := takes_of rfl rfl rfl rfl
    have po : PassesOwn (model P w) (cxOf (L2.CX P w) P w Z.K Z.mg base nm_Lheight "_law_height" (defScope st_Lheight) Z.f_Lheight cdv A outer s H E).A (cxOf (L2.CX P w) P w Z.K Z.mg base nm_Lheight "_law_height" (defScope st_Lheight) Z.f_Lheight cdv A outer s H E).env (cxOf (L2.CX P w) P w Z.K Z.mg base nm_Lheight "_law_height" (defScope st_Lheight) Z.f_Lheight cdv A outer s H E).xe := passes_of rfl
    refine ⟨t_Lheight Z (fun cls d _ H => E cls d H), ?_, rd_Lheight T h⟩
    exact (pss_cons (ps_if (pt_cmpR op_in_seq (pv 0) (pe_tup (pa_cons pe_int (pa_cons pe_int (pa_cons pe_int pa_nil)))) (by rfl)) (pss_one (ps_ret pe_int)) pss_nil)
      (pss_cons (ps_set (i := 4) sc_Lheight.nd rfl (Or.inl rfl) (pe_callB (call_max' rfl) (by rfl) T.n_max (by decide +kernel) (pa_cons pe_int (pa_cons (pe_op op_sub (pv 3) (pe_callS G_Lneeds (hr.mono (by decide)) rfl T.m_Lneeds T.k_Lneeds T.b_Lneeds (fun σ => passAt tk σ) (pa_cons (pv 0) (pa_cons (pv 1) (pa_cons (pv 2) pa_nil))))) pa_nil))))
      (pss_one (ps_ret (pe_op op_addU (pv 4) (pe_callTy call_int' (by rfl) T.n_int (by decide +kernel) (pa_cons (pe_cmpR op_in_seq (pv 0) (pe_tup (pa_cons pe_int (pa_cons pe_int (pa_cons pe_int (pa_cons pe_int (pa_cons pe_int pa_nil)))))) (by rfl)) pa_nil)))))))

theorem sc_Lcode : FnScope nm_Lcode ["_law_pen_here"] (defScope st_Lcode) := ⟨rfl, rfl, rfl, by decide +kernel, rfl, by decide +kernel, by decide +kernel⟩
theorem ok_Lcode {P : Program} {w : World} {base : Heap} {Z : Adr} (T : Top Z) (G_Ltake : FnOk P w Z.K Z.mg base (L2.CX P w) 2 Z.f_Ltake Z.d_Ltake ["_law_pen_here", "_law_many"] (sp_Ltake Z)) (G_Lrow : FnOk P w Z.K Z.mg base (L2.CX P w) 4 Z.f_Lrow Z.d_Lrow ["_law_pen_here", "_law_height_here", "_law_many", "_law_heads"] (sp_Lrow Z)) (G_Lheight : FnOk P w Z.K Z.mg base (L2.CX P w) 2 Z.f_Lheight Z.d_Lheight ["_law_op", "_law_number_here", "_law_heads", "_law_height_here"] (sp_Lheight Z)) : FnOk P w Z.K Z.mg base (L2.CX P w) 5 Z.f_Lcode Z.d_Lcode ["_law_pen_here"] (sp_Lcode Z) := by
  refine FnOk.mono (T.F_Lcode.okX (k := 4) sc_Lcode (fun vs H Q E h => ?_) (fun cdv A outer s H vs Q E hr h => ?_)) (by decide)
  · obtain ⟨a0, rfl, _⟩ := h; rfl
  · obtain ⟨a0, rfl, h⟩ := h
    have tk : Takes (cxOf (L2.CX P w) P w Z.K Z.mg base nm_Lcode "_law_code" (defScope st_Lcode) Z.f_Lcode cdv A outer s H E) (fun cls d _ H => E cls d H) := takes_of rfl rfl rfl rfl
    have po : PassesOwn (model P w) (cxOf (L2.CX P w) P w Z.K Z.mg base nm_Lcode "_law_code" (defScope st_Lcode) Z.f_Lcode cdv A outer s H E).A (cxOf (L2.CX P w) P w Z.K Z.mg base nm_Lcode "_law_code" (defScope st_Lcode) Z.f_Lcode cdv A outer s H E).env (cxOf (L2.CX P w) P w Z.K Z.mg base nm_Lcode "_law_code" (defScope st_Lcode) Z.f_Lcode cdv A outer s H E).xe := passes_of rfl
    refine ⟨t_Lcode Z (fun cls d _ H => E cls d H), ?_, rd_Lcode T h⟩
    exact (pss_cons (ps_set (i := 1) sc_Lcode.nd rfl (Or.inl rfl) (pe_op op_addU pe_int (pe_callS G_Ltake (hr.mono (by decide)) rfl T.m_Ltake T.k_Ltake T.b_Ltake (fun σ => passAt tk σ) (pa_cons (pv 0) (pa_cons pe_int pa_nil)))))
      (pss_cons (ps_set (i := 2) sc_Lcode.nd rfl (Or.inl rfl) (pe_lst pa_nil))
      (pss_cons (ps_for po rfl (pi_range1 rfl T.n_range (pa_cons (pe_ix ix_seq (pe_lst (pa_cons pe_int (pa_cons pe_int (pa_cons pe_int (pa_cons (pe_op op_addU pe_int (pe_callS G_Ltake (hr.mono (by decide)) rfl T.m_Ltake T.k_Ltake T.b_Ltake (fun σ => passAt tk σ) (pa_cons (pv 0) (pa_cons pe_int pa_nil)))) pa_nil))))) (pe_callS G_Ltake (hr.mono (by decide)) rfl T.m_Ltake T.k_Ltake T.b_Ltake (fun σ => passAt tk σ) (pa_cons (pv 0) (pa_cons pe_int pa_nil))) (fun _ _ => rfl)) pa_nil)) (pg_name (i := 3) sc_Lcode.nd rfl (Or.inl rfl)) (pss_cons (ps_set (i := 4) sc_Lcode.nd rfl (Or.inl rfl) (pe_op op_ml (pe_callS G_Ltake (hr.mono (by decide)) rfl T.m_Ltake T.k_Ltake T.b_Ltake (fun σ => passAt tk σ) (pa_cons (pv 0) (pa_cons pe_int pa_nil))) (pe_callTy call_int' (by rfl) T.n_int (by decide +kernel) (pa_cons (pe_cmpR op_gt (pv 3) pe_int (nomark _)) pa_nil))))
      (pss_one (ps_expr (pe_bm PySem.F.plainAttrs_list PySem.F.slot_list_append PySem.F.type_list_append mt_append (pv 2) (pa_cons (pe_tup (pa_cons pe_int (pa_cons (pv 4) (pa_cons (pe_op op_addU (pv 4) (pe_callS G_Ltake (hr.mono (by decide)) rfl T.m_Ltake T.k_Ltake T.b_Ltake (fun σ => passAt tk σ) (pa_cons (pv 0) (pa_cons (pe_ix ix_seq (pe_lst (pa_cons pe_int (pa_cons (pe_op op_sub pe_int (pv 4)) pa_nil))) (pe_callS G_Ltake (hr.mono (by decide)) rfl T.m_Ltake T.k_Ltake T.b_Ltake (fun σ => passAt tk σ) (pa_cons (pv 0) (pa_cons pe_int pa_nil))) (fun _ _ => rfl)) pa_nil)))) pa_nil)))) pa_nil))))))
      (pss_cons (ps_set (i := 5) sc_Lcode.nd rfl (Or.inl rfl) (pe_lst pa_nil))
      (pss_cons (ps_set (i := 6) sc_Lcode.nd rfl (Or.inl rfl) (pe_lst pa_nil))
      (pss_cons (ps_set (i := 7) sc_Lcode.nd rfl (Or.inl rfl) pe_int)
      (pss_cons (ps_for po rfl (pi_range1 rfl T.n_range (pa_cons (pv 1) pa_nil)) (pg_name (i := 3) sc_Lcode.nd rfl (Or.inl rfl)) (C8.pss_cut (ps_if (pt_cmpR (op_eqU (hr.units)) (pv 7) pe_int (nomark _)) (pss_one (ps_expr (pe_bm PySem.F.plainAttrs_list PySem.F.slot_list_append PySem.F.type_list_append mt_append (pv 6) (pa_cons (pv 3) pa_nil)))) pss_nil)
      (pss_cons (ps_expr (pe_bm PySem.F.plainAttrs_list PySem.F.slot_list_append PySem.F.type_list_append mt_append (pv 5) (pa_cons (pe_callS G_Lrow (hr.mono (by decide)) rfl T.m_Lrow T.k_Lrow T.b_Lrow (fun σ => passAt tk σ) (pa_cons (pv 0) (pa_cons (pv 7) (pa_cons (pv 1) (pa_cons (pv 2) pa_nil))))) pa_nil)))
      (pss_one (ps_set (i := 7) sc_Lcode.nd rfl (Or.inl rfl) (pe_callS G_Lheight (hr.mono (by decide)) rfl T.m_Lheight T.k_Lheight T.b_Lheight (fun σ => passAt tk σ) (pa_cons (pe_ix ix_seq (pe_ix ix_seq (pv 5) (pv 3) (fun _ _ => rfl)) pe_int (fun _ _ => rfl)) (pa_cons (pe_ix ix_seq (pe_ix ix_seq (pv 5) (pv 3) (fun _ _ => rfl)) pe_int (fun _ _ => rfl)) (pa_cons (pv 2) (pa_cons (pv 7) pa_nil))))))))))
      (pss_cons (ps_for po rfl (pi_range1 rfl T.n_range (pa_cons (pe_callB call_len' (by rfl) T.n_len (by decide +kernel) (pa_cons (pv 2) pa_nil)) pa_nil)) (pg_name (i := 3) sc_Lcode.nd rfl (Or.inl rfl)) (pss_cons (ps_set (i := 8) sc_Lcode.nd rfl (Or.inl rfl) (pe_ix ix_seq (pv 6) (pe_callS G_Ltake (hr.mono (by decide)) rfl T.m_Ltake T.k_Ltake T.b_Ltake (fun σ => passAt tk σ) (pa_cons (pv 0) (pa_cons (pe_callB call_len' (by rfl) T.n_len (by decide +kernel) (pa_cons (pv 6) pa_nil)) pa_nil))) (fun _ _ => rfl)))
      (C8.pss_cut (ps_if (PW.pt (pw_and (pt_cmpR (op_eqU (hr.units)) (pv 3) pe_int (nomark _)) (pw_and1 (pt_cmpR op_gt (pe_callS G_Ltake (hr.mono (by decide)) rfl T.m_Ltake T.k_Ltake T.b_Ltake (fun σ => passAt tk σ) (pa_cons (pv 0) (pa_cons pe_int pa_nil))) pe_int (nomark _))))) (pss_one (ps_set (i := 8) sc_Lcode.nd rfl (Or.inl rfl) pe_int)) pss_nil)
      (pss_one (ps_asg (pe_tup (pa_cons (pv 8) (pa_cons (pe_ix ix_seq (pe_ix ix_seq (pv 2) (pv 3) (fun _ _ => rfl)) pe_int (fun _ _ => rfl)) (pa_cons (pe_ix ix_seq (pe_ix ix_seq (pv 2) (pv 3) (fun _ _ => rfl)) pe_int (fun _ _ => rfl)) pa_nil)))) (pg_sub (pv 2) (pv 3) set_list))))))
      (pss_one (ps_ret (pe_tup (pa_cons (pv 2) (pa_cons (pv 5) pa_nil)))))))))))))

theorem sc_Lword : FnScope nm_Lword ["_law_caught"] (defScope st_Lword) := ⟨rfl, rfl, rfl, by decide +kernel, rfl, by decide +kernel, by decide +kernel⟩
theorem ok_Lword {P : Program} {w : World} {base : Heap} {Z : Adr} (T : Top Z)  : FnOk P w Z.K Z.mg base (L2.CX P w) 1 Z.f_Lword Z.d_Lword ["_law_caught"] (sp_Lword Z) := by
  refine FnOk.mono (T.F_Lword.okX (k := 0) sc_Lword (fun vs H Q E h => ?_) (fun cdv A outer s H vs Q E hr h => ?_)) (by decide)
  · obtain ⟨a0, rfl, _⟩ := h; rfl
  · obtain ⟨a0, rfl, h⟩ := h
    have tk : Takes (cxOf (L2.CX P w) P w Z.K Z.mg base nm_Lword "_law_word" (defScope st_Lword) Z.f_Lword cdv A outer s H E) (fun cls d _ H => E cls d H) := takes_of rfl rfl rfl rfl
    have po : PassesOwn (model P w) (cxOf (L2.CX P w) P w Z.K Z.mg base nm_Lword "_law_word" (defScope st_Lword) Z.f_Lword cdv A outer s H E).A (cxOf (L2.CX P w) P w Z.K Z.mg base nm_Lword "_law_word" (defScope st_Lword) Z.f_Lword cdv A outer s H E).env (cxOf (L2.CX P w) P w Z.K Z.mg base nm_Lword "_law_word" (defScope st_Lword) Z.f_Lword cdv A outer s H E).xe := passes_of rfl
    refine ⟨t_Lword Z (fun cls d _ H => E cls d H), ?_, rd_Lword T h⟩
    exact (pss_cons (ps_if (pt_cmpR op_isU (pv 0) pe_non (nomark _)) (pss_one (ps_ret pe_str)) pss_nil)
      (pss_cons (ps_set (i := 1) sc_Lword.nd rfl (Or.inl rfl) (pe_callB call_isi3 (by rfl) T.n_isinstance (by decide +kernel) (pa_cons (pv 0) (pa_cons (pe_tup (pa_cons (pe_glob rfl T.g_NoSheet rfl) (pa_cons (pe_glob rfl T.g_NoText rfl) (pa_cons (pe_glob rfl T.g_NoRow rfl) (pa_cons (pe_glob rfl T.g_NoName rfl) pa_nil))))) pa_nil))))
      (pss_one (ps_ret (pe_ix ix_seq (pe_lst (pa_cons pe_str (pa_cons pe_str pa_nil))) (pe_callTy call_int' (by rfl) T.n_int (by decide +kernel) (pa_cons (pe_and (pe_callB call_isi3 (by rfl) T.n_isinstance (by decide +kernel) (pa_cons (pv 0) (pa_cons (pe_glob rfl T.g_NoCode rfl) pa_nil))) (pe_and (pe_callB call_isi3 (by rfl) T.n_isinstance (by decide +kernel) (pa_cons (pv 0) (pa_cons (pe_bltn (by rfl) T.n_ValueError (by decide +kernel) rfl) pa_nil))) (pe_one (pe_not (pv 1))))) pa_nil)) (fun _ _ => rfl))))))

theorem sc_Lbad_row : FnScope nm_Lbad_row ["_law_pen_here", "_law_many", "_law_count"] (defScope st_Lbad_row) := ⟨rfl, rfl, rfl, by decide +kernel, rfl, by decide +kernel, by decide +kernel⟩
theorem ok_Lbad_row {P : Program} {w : World} {base : Heap} {Z : Adr} (T : Top Z) (G_Ltake : FnOk P w Z.K Z.mg base (L2.CX P w) 2 Z.f_Ltake Z.d_Ltake ["_law_pen_here", "_law_many"] (sp_Ltake Z)) : FnOk P w Z.K Z.mg base (L2.CX P w) 3 Z.f_Lbad_row Z.d_Lbad_row ["_law_pen_here", "_law_many", "_law_count"] (sp_Lbad_row Z) := by
  refine FnOk.mono (T.F_Lbad_row.okX (k := 2) sc_Lbad_row (fun vs H Q E h => ?_) (fun cdv A outer s H vs Q E hr h => ?_)) (by decide)
  · obtain ⟨a0, a1, a2, rfl, _⟩ := h; rfl
  · obtain ⟨a0, a1, a2, rfl, h⟩ := h
    have tk : Takes (cxOf (L2.CX P w) P w Z.K Z.mg base nm_Lbad_row "_law_bad_row" (defScope st_Lbad_row) Z.f_Lbad_row cdv A outer s H E) (fun cls d _ H => E cls d H) := takes_of rfl rfl rfl rfl
    have po : PassesOwn (model P w) (cxOf (L2.CX P w) P w Z.K Z.mg base nm_Lbad_row "_law_bad_row" (defScope st_Lbad_row) Z.f_Lbad_row cdv A outer s H E).A (cxOf (L2.CX P w) P w Z.K Z.mg base nm_Lbad_row "_law_bad_row" (defScope st_Lbad_row) Z.f_Lbad_row cdv A outer s H E).env (cxOf (L2.CX P w) P w Z.K Z.mg base nm_Lbad_row "_law_bad_row" (defScope st_Lbad_row) Z.f_Lbad_row cdv A outer s H E).xe := passes_of rfl
    refine ⟨t_Lbad_row Z (fun cls d _ H => E cls d H), ?_, rd_Lbad_row T h⟩
    exact (pss_cons (ps_set (i := 3) sc_Lbad_row.nd rfl (Or.inl rfl) (pe_lst (pa_cons (pe_tup (pa_cons pe_int (pa_cons pe_int pa_nil))) (pa_cons (pe_tup (pa_cons (pe_un un_neg pe_int) (pa_cons pe_int pa_nil))) (pa_cons (pe_tup (pa_cons pe_int (pa_cons pe_int pa_nil))) (pa_cons (pe_tup (pa_cons pe_int (pa_cons (pe_un un_neg pe_int) pa_nil))) (pa_cons (pe_tup (pa_cons pe_int (pa_cons pe_int pa_nil))) (pa_cons (pe_tup (pa_cons pe_int (pa_cons (pe_un un_neg pe_int) pa_nil))) (pa_cons (pe_tup (pa_cons pe_int (pa_cons pe_int pa_nil))) (pa_cons (pe_tup (pa_cons pe_int (pa_cons (pv 1) pa_nil))) (pa_cons (pe_tup (pa_cons pe_int (pa_cons (pe_un un_neg pe_int) pa_nil))) (pa_cons (pe_tup (pa_cons pe_int (pa_cons (pv 1) pa_nil))) (pa_cons (pe_tup (pa_cons pe_int (pa_cons (pe_un un_neg pe_int) pa_nil))) pa_nil)))))))))))))
      (pss_cons (ps_set (i := 3) sc_Lbad_row.nd rfl (Or.inl rfl) (pe_op op_addU (pv 3) (pe_lst (pa_cons (pe_tup (pa_cons pe_int (pa_cons (pv 2) pa_nil))) (pa_cons (pe_tup (pa_cons pe_int (pa_cons (pe_un un_neg pe_int) pa_nil))) (pa_cons (pe_tup (pa_cons pe_int (pa_cons pe_int pa_nil))) (pa_cons (pe_tup (pa_cons pe_int (pa_cons (pe_un un_neg pe_int) pa_nil))) (pa_cons (pe_tup (pa_cons pe_int (pa_cons pe_int pa_nil))) (pa_cons (pe_tup (pa_cons pe_int (pa_cons pe_int pa_nil))) (pa_cons (pe_tup (pa_cons pe_int (pa_cons pe_int pa_nil))) (pa_cons (pe_tup (pa_cons pe_int (pa_cons pe_int pa_nil))) (pa_cons (pe_tup (pa_cons pe_int (pa_cons pe_int pa_nil))) (pa_cons (pe_tup (pa_cons pe_int (pa_cons pe_int pa_nil))) pa_nil)))))))))))))
      (pss_cons (ps_set (i := 3) sc_Lbad_row.nd rfl (Or.inl rfl) (pe_op op_addU (pv 3) (pe_lst (pa_cons (pe_tup (pa_cons pe_int (pa_cons pe_int pa_nil))) (pa_cons (pe_tup (pa_cons (pe_powc (by unfold CPow; decide) (by decide +kernel)) (pa_cons pe_int pa_nil))) (pa_cons (pe_tup (pa_cons pe_int (pa_cons (pe_powc (by unfold CPow; decide) (by decide +kernel)) pa_nil))) (pa_cons (pe_tup (pa_cons pe_int (pa_cons (pe_un un_neg pe_int) pa_nil))) pa_nil)))))))
      (pss_one (ps_ret (pe_ix ix_seq (pv 3) (pe_callS G_Ltake (hr.mono (by decide)) rfl T.m_Ltake T.k_Ltake T.b_Ltake (fun σ => passAt tk σ) (pa_cons (pv 0) (pa_cons (pe_callB call_len' (by rfl) T.n_len (by decide +kernel) (pa_cons (pv 3) pa_nil)) pa_nil))) (fun _ _ => rfl)))))))

theorem sc_Lbad_head : FnScope nm_Lbad_head ["_law_pen_here", "_law_head", "_law_at", "_law_many"] (defScope st_Lbad_head) := ⟨rfl, rfl, rfl, by decide +kernel, rfl, by decide +kernel, by decide +kernel⟩
theorem ok_Lbad_head {P : Program} {w : World} {base : Heap} {Z : Adr} (T : Top Z) (G_Ltake : FnOk P w Z.K Z.mg base (L2.CX P w) 2 Z.f_Ltake Z.d_Ltake ["_law_pen_here", "_law_many"] (sp_Ltake Z)) : FnOk P w Z.K Z.mg base (L2.CX P w) 3 Z.f_Lbad_head Z.d_Lbad_head ["_law_pen_here", "_law_head", "_law_at", "_law_many"] (sp_Lbad_head Z) := by
  refine FnOk.mono (T.F_Lbad_head.okX (k := 2) sc_Lbad_head (fun vs H Q E h => ?_) (fun cdv A outer s H vs Q E hr h => ?_)) (by decide)
  · obtain ⟨a0, a1, a2, a3, rfl, _⟩ := h; rfl
  · obtain ⟨a0, a1, a2, a3, rfl, h⟩ := h
    have tk : Takes (cxOf (L2.CX P w) P w Z.K Z.mg base nm_Lbad_head "_law_bad_head" (defScope st_Lbad_head) Z.f_Lbad_head cdv A outer s H E) (fun cls d _ H => E cls d H) := takes_of rfl rfl rfl rfl
    have po : PassesOwn (model P w) (cxOf (L2.CX P w) P w Z.K Z.mg base nm_Lbad_head "_law_bad_head" (defScope st_Lbad_head) Z.f_Lbad_head cdv A outer s H E).A (cxOf (L2.CX P w) P w Z.K Z.mg base nm_Lbad_head "_law_bad_head" (defScope st_Lbad_head) Z.f_Lbad_head cdv A outer s H E).env (cxOf (L2.CX P w) P w Z.K Z.mg base nm_Lbad_head "_law_bad_head" (defScope st_Lbad_head) Z.f_Lbad_head cdv A outer s H E).xe := passes_of rfl
    refine ⟨t_Lbad_head Z (fun cls d _ H => E cls d H), ?_, rd_Lbad_head T h⟩
    exact (pss_cons (ps_asg (pv 1) (pg_un rfl (pgs_cons (pg_name (i := 4) sc_Lbad_head.nd rfl (Or.inl rfl)) (pgs_cons (pg_name (i := 5) sc_Lbad_head.nd rfl (Or.inl rfl)) (pgs_cons (pg_name (i := 6) sc_Lbad_head.nd rfl (Or.inl rfl)) pgs_nil)))))
      (pss_cons (ps_set (i := 7) sc_Lbad_head.nd rfl (Or.inl rfl) (pe_lst (pa_cons (pe_tup (pa_cons (pv 3) (pa_cons (pv 5) (pa_cons (pv 6) pa_nil)))) (pa_cons (pe_tup (pa_cons (pe_un un_neg pe_int) (pa_cons (pv 5) (pa_cons (pv 6) pa_nil)))) (pa_cons (pe_tup (pa_cons (pv 4) (pa_cons pe_int (pa_cons pe_int pa_nil)))) (pa_cons (pe_tup (pa_cons (pv 4) (pa_cons (pe_un un_neg pe_int) (pa_cons (pv 6) pa_nil)))) (pa_cons (pe_tup (pa_cons (pv 4) (pa_cons (pv 5) (pa_cons (pe_op op_sub (pv 5) pe_int) pa_nil)))) pa_nil)))))))
      (pss_cons (ps_set (i := 7) sc_Lbad_head.nd rfl (Or.inl rfl) (pe_op op_addU (pv 7) (pe_lst (pa_cons (pe_tup (pa_cons (pv 4) (pa_cons (pv 5) (pa_cons pe_int pa_nil)))) (pa_cons (pe_ix ix_seq (pe_lst (pa_cons (pe_tup (pa_cons (pv 4) (pa_cons pe_int (pa_cons pe_int pa_nil)))) (pa_cons (pe_tup (pa_cons (pv 4) (pa_cons pe_int (pa_cons pe_int pa_nil)))) pa_nil))) (pe_callTy call_int' (by rfl) T.n_int (by decide +kernel) (pa_cons (pe_cmpR op_gt (pv 2) pe_int (nomark _)) pa_nil)) (fun _ _ => rfl)) (pa_cons (pe_tup (pa_cons (pe_powc (by unfold CPow; decide) (by decide +kernel)) (pa_cons (pv 5) (pa_cons (pv 6) pa_nil)))) pa_nil))))))
      (pss_one (ps_ret (pe_ix ix_seq (pv 7) (pe_callS G_Ltake (hr.mono (by decide)) rfl T.m_Ltake T.k_Ltake T.b_Ltake (fun σ => passAt tk σ) (pa_cons (pv 0) (pa_cons (pe_callB call_len' (by rfl) T.n_len (by decide +kernel) (pa_cons (pv 7) pa_nil)) pa_nil))) (fun _ _ => rfl)))))))

theorem sc_Lflat : FnScope nm_Lflat ["_law_heads", "_law_rows"] (defScope st_Lflat) := ⟨rfl, rfl, rfl, by decide +kernel, rfl, by decide +kernel, by decide +kernel⟩
theorem ok_Lflat {P : Program} {w : World} {base : Heap} {Z : Adr} (T : Top Z)  : FnOk P w Z.K Z.mg base (L2.CX P w) 1 Z.f_Lflat Z.d_Lflat ["_law_heads", "_law_rows"] (sp_Lflat Z) := by
  refine FnOk.mono (T.F_Lflat.okX (k := 0) sc_Lflat (fun vs H Q E h => ?_) (fun cdv A outer s H vs Q E hr h => ?_)) (by decide)
  · obtain ⟨a0, a1, rfl, _⟩ := h; rfl
  · obtain ⟨a0, a1, rfl, h⟩ := h
    have tk : Takes (cxOf (L2.CX P w) P w Z.K Z.mg base nm_Lflat "_law_flat" (defScope st_Lflat) Z.f_Lflat cdv A outer s H E) (fun cls d _ H => E cls d H) := takes_of rfl rfl rfl rfl
    have po : PassesOwn (model P w) (cxOf (L2.CX P w) P w Z.K Z.mg base nm_Lflat "_law_flat" (defScope st_Lflat) Z.f_Lflat cdv A outer s H E).A (cxOf (L2.CX P w) P w Z.K Z.mg base nm_Lflat "_law_flat" (defScope st_Lflat) Z.f_Lflat cdv A outer s H E).env (cxOf (L2.CX P w) P w Z.K Z.mg base nm_Lflat "_law_flat" (defScope st_Lflat) Z.f_Lflat cdv A outer s H E).xe := passes_of rfl
    refine ⟨t_Lflat Z (fun cls d _ H => E cls d H), ?_, rd_Lflat T h⟩
    exact (pss_cons (ps_set (i := 2) sc_Lflat.nd rfl (Or.inl rfl) (pe_lst (pa_cons (pe_callB call_len' (by rfl) T.n_len (by decide +kernel) (pa_cons (pv 0) pa_nil)) pa_nil)))
      (pss_cons (ps_for po rfl (pi_list (pe_op op_addU (pv 0) (pv 1))) (pg_name (i := 3) sc_Lflat.nd rfl (Or.inl rfl)) (pss_one (ps_set (i := 2) sc_Lflat.nd rfl (Or.inl rfl) (pe_op op_addU (pv 2) (pe_callTy call_list' (by rfl) T.n_list (by decide +kernel) (pa_cons (pv 3) pa_nil))))))
      (pss_one (ps_ret (pv 2)))))

theorem sc_Lbent : FnScope nm_Lbent ["_law_pen_here", "_law_heads", "_law_rows"] (defScope st_Lbent) := ⟨rfl, rfl, rfl, by decide +kernel, rfl, by decide +kernel, by decide +kernel⟩
theorem ok_Lbent {P : Program} {w : World} {base : Heap} {Z : Adr} (T : Top Z) (G_Ltake : FnOk P w Z.K Z.mg base (L2.CX P w) 2 Z.f_Ltake Z.d_Ltake ["_law_pen_here", "_law_many"] (sp_Ltake Z)) (G_Lbad_row : FnOk P w Z.K Z.mg base (L2.CX P w) 3 Z.f_Lbad_row Z.d_Lbad_row ["_law_pen_here", "_law_many", "_law_count"] (sp_Lbad_row Z)) (G_Lbad_head : FnOk P w Z.K Z.mg base (L2.CX P w) 3 Z.f_Lbad_head Z.d_Lbad_head ["_law_pen_here", "_law_head", "_law_at", "_law_many"] (sp_Lbad_head Z)) : FnOk P w Z.K Z.mg base (L2.CX P w) 4 Z.f_Lbent Z.d_Lbent ["_law_pen_here", "_law_heads", "_law_rows"] (sp_Lbent Z) := by
  refine FnOk.mono (T.F_Lbent.okX (k := 3) sc_Lbent (fun vs H Q E h => ?_) (fun cdv A outer s H vs Q E hr h => ?_)) (by decide)
  · obtain ⟨a0, a1, a2, rfl, _⟩ := h; rfl
  · obtain ⟨a0, a1, a2, rfl, h⟩ := h
    have tk : Takes (cxOf (L2.CX P w) P w Z.K Z.mg base nm_Lbent "_law_bent" (defScope st_Lbent) Z.f_Lbent cdv A outer s H E) (fun cls d _ H => E cls d H) := takes_of rfl rfl rfl rfl
    have po : PassesOwn (model P w) (cxOf (L2.CX P w) P w Z.K Z.mg base nm_Lbent "_law_bent" (defScope st_Lbent) Z.f_Lbent cdv A outer s H E).A (cxOf (L2.CX P w) P w Z.K Z.mg base nm_Lbent "_law_bent" (defScope st_Lbent) Z.f_Lbent cdv A outer s H E).env (cxOf (L2.CX P w) P w Z.K Z.mg base nm_Lbent "_law_bent" (defScope st_Lbent) Z.f_Lbent cdv A outer s H E).xe := passes_of rfl
    refine ⟨t_Lbent Z (fun cls d _ H => E cls d H), ?_, rd_Lbent T h⟩
    exact (pss_cons (ps_set (i := 3) sc_Lbent.nd rfl (Or.inl rfl) (pe_callS G_Ltake (hr.mono (by decide)) rfl T.m_Ltake T.k_Ltake T.b_Ltake (fun σ => passAt tk σ) (pa_cons (pv 0) (pa_cons (pe_callB call_len' (by rfl) T.n_len (by decide +kernel) (pa_cons (pv 2) pa_nil)) pa_nil))))
      (pss_cons (ps_set (i := 4) sc_Lbent.nd rfl (Or.inl rfl) (pe_callS G_Ltake (hr.mono (by decide)) rfl T.m_Ltake T.k_Ltake T.b_Ltake (fun σ => passAt tk σ) (pa_cons (pv 0) (pa_cons (pe_callB call_len' (by rfl) T.n_len (by decide +kernel) (pa_cons (pv 1) pa_nil)) pa_nil))))
      (pss_cons (ps_set (i := 5) sc_Lbent.nd rfl (Or.inl rfl) (pe_callS G_Ltake (hr.mono (by decide)) rfl T.m_Ltake T.k_Ltake T.b_Ltake (fun σ => passAt tk σ) (pa_cons (pv 0) (pa_cons pe_int pa_nil))))
      (pss_cons (ps_if (pt_cmpR op_lt (pv 5) pe_int (nomark _)) (pss_one (ps_ret (pe_tup (pa_cons (pv 1) (pa_cons (pe_op op_addU (pe_op op_addU (pe_slice sl_U (pv 2) po_none (po_some (pv 3))) (pe_lst (pa_cons (pe_callS G_Lbad_row (hr.mono (by decide)) rfl T.m_Lbad_row T.k_Lbad_row T.b_Lbad_row (fun σ => passAt tk σ) (pa_cons (pv 0) (pa_cons (pe_callB call_len' (by rfl) T.n_len (by decide +kernel) (pa_cons (pv 2) pa_nil)) (pa_cons (pe_callB call_len' (by rfl) T.n_len (by decide +kernel) (pa_cons (pv 1) pa_nil)) pa_nil)))) pa_nil))) (pe_slice sl_U (pv 2) (po_some (pe_op op_addU (pv 3) pe_int)) po_none)) pa_nil))))) pss_nil)
      (pss_cons (ps_if (pt_cmpR op_lt (pv 5) pe_int (nomark _)) (pss_one (ps_ret (pe_tup (pa_cons (pe_op op_addU (pe_op op_addU (pe_slice sl_U (pv 1) po_none (po_some (pv 4))) (pe_lst (pa_cons (pe_callS G_Lbad_head (hr.mono (by decide)) rfl T.m_Lbad_head T.k_Lbad_head T.b_Lbad_head (fun σ => passAt tk σ) (pa_cons (pv 0) (pa_cons (pe_ix ix_seq (pv 1) (pv 4) (fun _ _ => rfl)) (pa_cons (pv 4) (pa_cons (pe_callB call_len' (by rfl) T.n_len (by decide +kernel) (pa_cons (pv 2) pa_nil)) pa_nil))))) pa_nil))) (pe_slice sl_U (pv 1) (po_some (pe_op op_addU (pv 4) pe_int)) po_none)) (pa_cons (pv 2) pa_nil))))) pss_nil)
      (pss_cons (ps_setLc (i := 6) (own := [(".0", 7), ("_law_k", 8)]) (g := (gName 8)) (tt := tYes) rfl sc_Lbent.nd rfl rfl (sw_true rfl rfl rfl (by decide +kernel)) (pi_range1 rfl T.n_range (pa_cons pe_int pa_nil)) (blkOk_by (own := [(".0", 7), ("_law_k", 8)]) (N := nm_Lbent) (sc := defScope st_Lbent) (by decide +kernel)) (fun _ _ _ _ _ => (pg_name (i := 8) sc_Lbent.nd rfl (Or.inl rfl))) (fun _ _ _ _ _ => pts_nil) (fun _ _ _ _ _ => (pe_tup (pa_cons pe_int (pa_cons pe_int (pa_cons pe_int pa_nil))))))
      (pss_one (ps_ret (pe_ix ix_seq (pe_lst (pa_cons (pe_tup (pa_cons (pe_lst pa_nil) (pa_cons (pv 2) pa_nil))) (pa_cons (pe_tup (pa_cons (pv 1) (pa_cons (pe_lst pa_nil) pa_nil))) (pa_cons (pe_tup (pa_cons (pv 6) (pa_cons (pv 2) pa_nil))) pa_nil)))) (pe_callS G_Ltake (hr.mono (by decide)) rfl T.m_Ltake T.k_Ltake T.b_Ltake (fun σ => passAt tk σ) (pa_cons (pv 0) (pa_cons pe_int pa_nil))) (fun _ _ => rfl))))))))))

theorem sc_Lodd : FnScope nm_Lodd ["_law_pen_here", "_law_numbers"] (defScope st_Lodd) := ⟨rfl, rfl, rfl, by decide +kernel, rfl, by decide +kernel, by decide +kernel⟩
theorem ok_Lodd {P : Program} {w : World} {base : Heap} {Z : Adr} (T : Top Z) (G_Ltake : FnOk P w Z.K Z.mg base (L2.CX P w) 2 Z.f_Ltake Z.d_Ltake ["_law_pen_here", "_law_many"] (sp_Ltake Z)) : FnOk P w Z.K Z.mg base (L2.CX P w) 3 Z.f_Lodd Z.d_Lodd ["_law_pen_here", "_law_numbers"] (sp_Lodd Z) := by
  refine FnOk.mono (T.F_Lodd.okX (k := 2) sc_Lodd (fun vs H Q E h => ?_) (fun cdv A outer s H vs Q E hr h => ?_)) (by decide)
  · obtain ⟨a0, a1, rfl, _⟩ := h; rfl
  · obtain ⟨a0, a1, rfl, h⟩ := h
    have tk : Takes (cxOf (L2.CX P w) P w Z.K Z.mg base nm_Lodd "_law_odd" (defScope st_Lodd) Z.f_Lodd cdv A outer s H E) (fun cls d _ H => E cls d H) := takes_of rfl rfl rfl rfl
    have po : PassesOwn (model P w) (cxOf (L2.CX P w) P w Z.K Z.mg base nm_Lodd "_law_odd" (defScope st_Lodd) Z.f_Lodd cdv A outer s H E).A (cxOf (L2.CX P w) P w Z.K Z.mg base nm_Lodd "_law_odd" (defScope st_Lodd) Z.f_Lodd cdv A outer s H E).env (cxOf (L2.CX P w) P w Z.K Z.mg base nm_Lodd "_law_odd" (defScope st_Lodd) Z.f_Lodd cdv A outer s H E).xe := passes_of rfl
    refine ⟨t_Lodd Z (fun cls d _ H => E cls d H), ?_, rd_Lodd T h⟩
    exact (pss_cons (ps_set (i := 2) sc_Lodd.nd rfl (Or.inl rfl) (pe_op op_addU pe_int (pe_callS G_Ltake (hr.mono (by decide)) rfl T.m_Ltake T.k_Ltake T.b_Ltake (fun σ => passAt tk σ) (pa_cons (pv 0) (pa_cons (pe_op op_sub (pe_callB call_len' (by rfl) T.n_len (by decide +kernel) (pa_cons (pv 1) pa_nil)) pe_int) pa_nil)))))
      (pss_cons (ps_set (i := 3) sc_Lodd.nd rfl (Or.inl rfl) (pe_slice sl_U (pv 1) po_none (po_some (pv 2))))
      (pss_cons (ps_set (i := 4) sc_Lodd.nd rfl (Or.inl rfl) (pe_slice sl_U (pv 1) (po_some (pe_op op_addU (pv 2) pe_int)) po_none))
      (pss_cons (ps_set (i := 5) sc_Lodd.nd rfl (Or.inl rfl) (pe_lst (pa_cons (pe_op op_addU (pv 3) (pv 4)) (pa_cons (pe_op op_addU (pv 1) (pe_lst (pa_cons pe_int pa_nil))) (pa_cons (pe_op op_addU (pe_op op_addU (pv 3) (pe_lst (pa_cons pe_bl pa_nil))) (pv 4)) (pa_cons (pe_op op_addU (pe_op op_addU (pv 3) (pe_lst (pa_cons pe_str pa_nil))) (pv 4)) (pa_cons (pe_op op_addU (pe_op op_addU (pv 3) (pe_lst (pa_cons pe_non pa_nil))) (pv 4)) pa_nil)))))))
      (pss_cons (ps_set (i := 5) sc_Lodd.nd rfl (Or.inl rfl) (pe_op op_addU (pv 5) (pe_lst (pa_cons (pe_op op_addU (pe_op op_addU (pv 3) (pe_lst (pa_cons (pe_lst (pa_cons pe_int pa_nil)) pa_nil))) (pv 4)) (pa_cons (pe_callTy call_tuple' (by rfl) T.n_tuple (by decide +kernel) (pa_cons (pv 1) pa_nil)) (pa_cons (pe_lst pa_nil) (pa_cons pe_str (pa_cons pe_str (pa_cons pe_non (pa_cons pe_int (pa_cons pe_bl (pa_cons pe_dnewK (pa_cons (pe_lst (pa_cons (pv 1) pa_nil)) pa_nil)))))))))))))
      (pss_cons (ps_set (i := 5) sc_Lodd.nd rfl (Or.inl rfl) (pe_op op_addU (pv 5) (pe_lst (pa_cons (pe_lst (pa_cons (pe_ix ix_seq (pv 1) pe_int (fun _ _ => rfl)) pa_nil)) (pa_cons (pe_slice sl_U (pv 1) po_none (po_some (pe_un un_neg pe_int))) (pa_cons (pe_op op_addU (pe_lst (pa_cons pe_int pa_nil)) (pe_slice sl_U (pv 1) (po_some pe_int) po_none)) (pa_cons (pe_op op_addU (pe_op op_addU (pv 3) (pe_lst (pa_cons (pe_tup (pa_cons pe_int (pa_cons pe_int pa_nil))) pa_nil))) (pv 4)) pa_nil)))))))
      (pss_one (ps_ret (pe_ix ix_seq (pv 5) (pe_callS G_Ltake (hr.mono (by decide)) rfl T.m_Ltake T.k_Ltake T.b_Ltake (fun σ => passAt tk σ) (pa_cons (pv 0) (pa_cons (pe_callB call_len' (by rfl) T.n_len (by decide +kernel) (pa_cons (pv 5) pa_nil)) pa_nil))) (fun _ _ => rfl))))))))))

theorem sc_Ltried : FnScope nm_Ltried ["_law_way", "_law_one", "_law_other"] (defScope st_Ltried) := ⟨rfl, rfl, rfl, by decide +kernel, rfl, by decide +kernel, by decide +kernel⟩
theorem ok_Ltried {P : Program} {w : World} {base : Heap} {Z : Adr} (T : Top Z) (G_heads_of : FnOk P w Z.K Z.mg base (L2.CX P w) 4 Z.f_heads_of Z.d_heads_of ["code"] (sp_heads_of Z)) (G_rows_of : FnOk P w Z.K Z.mg base (L2.CX P w) 4 Z.f_rows_of Z.d_rows_of ["code"] (sp_rows_of Z)) (G_go : FnOk P w Z.K Z.mg base (L2.CX P w) 7 Z.f_go Z.d_go ["code", "given", "breaths", "most"] (sp_go Z)) (G_code_of : FnOk P w Z.K Z.mg base (L2.CX P w) 3 Z.f_code_of Z.d_code_of ["heads", "rows"] (sp_code_of Z)) (G_Lword : FnOk P w Z.K Z.mg base (L2.CX P w) 1 Z.f_Lword Z.d_Lword ["_law_caught"] (sp_Lword Z)) : FnOk P w Z.K Z.mg base (L2.CX P w) 8 Z.f_Ltried Z.d_Ltried ["_law_way", "_law_one", "_law_other"] (sp_Ltried Z) := by
  refine FnOk.mono (T.F_Ltried.okX (k := 7) sc_Ltried (fun vs H Q E h => ?_) (fun cdv A outer s H vs Q E hr h => ?_)) (by decide)
  · obtain ⟨a0, a1, a2, rfl, _⟩ := h; rfl
  · obtain ⟨a0, a1, a2, rfl, h⟩ := h
    have tk : Takes (cxOf (L2.CX P w) P w Z.K Z.mg base nm_Ltried "_law_tried" (defScope st_Ltried) Z.f_Ltried cdv A outer s H E) (fun cls d _ H => E cls d H) := takes_of rfl rfl rfl rfl
    have po : PassesOwn (model P w) (cxOf (L2.CX P w) P w Z.K Z.mg base nm_Ltried "_law_tried" (defScope st_Ltried) Z.f_Ltried cdv A outer s H E).A (cxOf (L2.CX P w) P w Z.K Z.mg base nm_Ltried "_law_tried" (defScope st_Ltried) Z.f_Ltried cdv A outer s H E).env (cxOf (L2.CX P w) P w Z.K Z.mg base nm_Ltried "_law_tried" (defScope st_Ltried) Z.f_Ltried cdv A outer s H E).xe := passes_of rfl
    refine ⟨t_Ltried Z (fun cls d _ H => E cls d H), ?_, rd_Ltried T h⟩
    exact (pss_cons (ps_set (i := 3) sc_Ltried.nd rfl (Or.inl rfl) pe_non)
      (pss_cons (ps_try_keep (i := 4) (tb := (fun W => (tIfS (tTest (tOp (rEqU Z.K) (tVar 0) (tC (.int 0)))) (tDrop (tCallS (sp_heads_of Z) (WE W) (tCons (tVar 1) tNil))) (tIfS (tTest (tOp (rEqU Z.K) (tVar 0) (tC (.int 1)))) (tDrop (tCallS (sp_rows_of Z) (WE W) (tCons (tVar 1) tNil))) (tIfS (tTest (tOp (rEqU Z.K) (tVar 0) (tC (.int 2)))) (tDrop (tCallS (sp_go Z) (WE W) (tCons (tVar 1) (tCons (tLst tNil) (tCons (tC (.int 1)) (tCons (tC (.int 9)) tNil)))))) (tDrop (tCallS (sp_code_of Z) (WE W) (tCons (tVar 1) (tCons (tVar 2) tNil))))))))) (ts := (tAsg (tVar 4) (gName 3))) rfl rfl rfl sc_Ltried.nd rfl rfl ⟨rfl, by decide, Or.inl T.g_ChainError⟩ tk (fun W pn xe tk po => (pss_one (ps_if (pt_cmpR (op_eqU (hr.units)) (pv 0) pe_int (nomark _)) (pss_one (ps_expr (pe_callS G_heads_of (hr.mono (by decide)) rfl T.m_heads_of T.k_heads_of T.b_heads_of (fun σ => passAt tk σ) (pa_cons (pv 1) pa_nil)))) (pss_one (ps_if (pt_cmpR (op_eqU (hr.units)) (pv 0) pe_int (nomark _)) (pss_one (ps_expr (pe_callS G_rows_of (hr.mono (by decide)) rfl T.m_rows_of T.k_rows_of T.b_rows_of (fun σ => passAt tk σ) (pa_cons (pv 1) pa_nil)))) (pss_one (ps_if (pt_cmpR (op_eqU (hr.units)) (pv 0) pe_int (nomark _)) (pss_one (ps_expr (pe_callS G_go (hr.mono (by decide)) rfl T.m_go T.k_go T.b_go (fun σ => passAt tk σ) (pa_cons (pv 1) (pa_cons (pe_lst pa_nil) (pa_cons pe_int (pa_cons pe_int pa_nil))))))) (pss_one (ps_expr (pe_callS G_code_of (hr.mono (by decide)) rfl T.m_code_of T.k_code_of T.b_code_of (fun σ => passAt tk σ) (pa_cons (pv 1) (pa_cons (pv 2) pa_nil)))))))))))) (fun a oe pn => (pss_one (ps_set (i := 3) sc_Ltried.nd rfl (Or.inl rfl) (pv 4)))))
      (pss_one (ps_ret (pe_callS G_Lword (hr.mono (by decide)) rfl T.m_Lword T.k_Lword T.b_Lword (fun σ => passAt tk σ) (pa_cons (pv 3) pa_nil))))))

theorem sc_Lrefused : FnScope nm_Lrefused ["_law_thing"] (defScope st_Lrefused) := ⟨rfl, rfl, rfl, by decide +kernel, rfl, by decide +kernel, by decide +kernel⟩
theorem ok_Lrefused {P : Program} {w : World} {base : Heap} {Z : Adr} (T : Top Z) (G_is_code : FnOk P w Z.K Z.mg base (L2.CX P w) 4 Z.f_is_code Z.d_is_code ["thing"] (sp_is_code Z)) (G_Ltried : FnOk P w Z.K Z.mg base (L2.CX P w) 8 Z.f_Ltried Z.d_Ltried ["_law_way", "_law_one", "_law_other"] (sp_Ltried Z)) : FnOk P w Z.K Z.mg base (L2.CX P w) 9 Z.f_Lrefused Z.d_Lrefused ["_law_thing"] (sp_Lrefused Z) := by
  refine FnOk.mono (T.F_Lrefused.okX (k := 8) sc_Lrefused (fun vs H Q E h => ?_) (fun cdv A outer s H vs Q E hr h => ?_)) (by decide)
  · obtain ⟨a0, rfl, _⟩ := h; rfl
  · obtain ⟨a0, rfl, h⟩ := h
    have tk : Takes (cxOf (L2.CX P w) P w Z.K Z.mg base nm_Lrefused "_law_refused" (defScope st_Lrefused) Z.f_Lrefused cdv A outer s H E) (fun cls d _ H => E cls d H) := takes_of rfl rfl rfl rfl
    have po : PassesOwn (model P w) (cxOf (L2.CX P w) P w Z.K Z.mg base nm_Lrefused "_law_refused" (defScope st_Lrefused) Z.f_Lrefused cdv A outer s H E).A (cxOf (L2.CX P w) P w Z.K Z.mg base nm_Lrefused "_law_refused" (defScope st_Lrefused) Z.f_Lrefused cdv A outer s H E).env (cxOf (L2.CX P w) P w Z.K Z.mg base nm_Lrefused "_law_refused" (defScope st_Lrefused) Z.f_Lrefused cdv A outer s H E).xe := passes_of rfl
    refine ⟨t_Lrefused Z (fun cls d _ H => E cls d H), ?_, rd_Lrefused T h⟩
    exact (pss_cons (ps_if (pt_cmpR op_notU (pe_callS G_is_code (hr.mono (by decide)) rfl T.m_is_code T.k_is_code T.b_is_code (fun σ => passAt tk σ) (pa_cons (pv 0) pa_nil)) pe_bl (nomark _)) (pss_one (ps_ret pe_bl)) pss_nil)
      (pss_one (ps_ret (pe_cmpR (op_eqU (hr.units)) (pe_lc (own := [(".0", 1), ("_law_way", 2)]) (g := (gName 2)) (tt := tYes) rfl sc_Lrefused.nd (pi_range1 rfl T.n_range (pa_cons pe_int pa_nil)) (blkOk_by (own := [(".0", 1), ("_law_way", 2)]) (N := nm_Lrefused) (sc := defScope st_Lrefused) (by decide +kernel)) (fun _ _ _ _ _ => (pg_name (i := 2) sc_Lrefused.nd rfl (Or.inl rfl))) (fun _ _ _ _ _ => pts_nil) (fun _ _ _ _ _ => (pe_callS G_Ltried (hr.mono (by decide)) rfl T.m_Ltried T.k_Ltried T.b_Ltried passC (pa_cons (pv 2) (pa_cons (pv 0) (pa_cons pe_non pa_nil)))))) (pe_op op_rep (pe_lst (pa_cons pe_str pa_nil)) pe_int) (nomark _)))))

theorem sc_law : FnScope nm_law ["_law_script"] (defScope st_law) := ⟨rfl, rfl, rfl, by decide +kernel, rfl, by decide +kernel, by decide +kernel⟩
theorem ok_law {P : Program} {w : World} {base : Heap} {Z : Adr} (T : Top Z) (G_Lpen : FnOk P w Z.K Z.mg base (L2.CX P w) 1 Z.f_Lpen Z.d_Lpen ["_law_script"] (sp_Lpen Z)) (G_Lcode : FnOk P w Z.K Z.mg base (L2.CX P w) 5 Z.f_Lcode Z.d_Lcode ["_law_pen_here"] (sp_Lcode Z)) (G_Lflat : FnOk P w Z.K Z.mg base (L2.CX P w) 1 Z.f_Lflat Z.d_Lflat ["_law_heads", "_law_rows"] (sp_Lflat Z)) (G_Lbent : FnOk P w Z.K Z.mg base (L2.CX P w) 4 Z.f_Lbent Z.d_Lbent ["_law_pen_here", "_law_heads", "_law_rows"] (sp_Lbent Z)) (G_Ltried : FnOk P w Z.K Z.mg base (L2.CX P w) 8 Z.f_Ltried Z.d_Ltried ["_law_way", "_law_one", "_law_other"] (sp_Ltried Z)) (G_Lrefused : FnOk P w Z.K Z.mg base (L2.CX P w) 9 Z.f_Lrefused Z.d_Lrefused ["_law_thing"] (sp_Lrefused Z)) (G_Lodd : FnOk P w Z.K Z.mg base (L2.CX P w) 3 Z.f_Lodd Z.d_Lodd ["_law_pen_here", "_law_numbers"] (sp_Lodd Z)) (G_is_code : FnOk P w Z.K Z.mg base (L2.CX P w) 4 Z.f_is_code Z.d_is_code ["thing"] (sp_is_code Z)) : FnOk P w Z.K Z.mg base (L2.CX P w) 10 Z.f_law Z.d_law ["_law_script"] (sp_law Z) := by
  refine FnOk.mono (T.F_law.okX (k := 9) sc_law (fun vs H Q E h => ?_) (fun cdv A outer s H vs Q E hr h => ?_)) (by decide)
  · obtain ⟨a0, rfl, _⟩ := h; rfl
  · obtain ⟨a0, rfl, h⟩ := h
    have tk : Takes (cxOf (L2.CX P w) P w Z.K Z.mg base nm_law "law" (defScope st_law) Z.f_law cdv A outer s H E) (fun cls d _ H => E cls d H) := takes_of rfl rfl rfl rfl
    have po : PassesOwn (model P w) (cxOf (L2.CX P w) P w Z.K Z.mg base nm_law "law" (defScope st_law) Z.f_law cdv A outer s H E).A (cxOf (L2.CX P w) P w Z.K Z.mg base nm_law "law" (defScope st_law) Z.f_law cdv A outer s H E).env (cxOf (L2.CX P w) P w Z.K Z.mg base nm_law "law" (defScope st_law) Z.f_law cdv A outer s H E).xe := passes_of rfl
    refine ⟨t_law Z (fun cls d _ H => E cls d H), ?_, rd_law T h⟩
    exact (pss_cons (ps_set (i := 1) sc_law.nd rfl (Or.inl rfl) (pe_callS G_Lpen (hr.mono (by decide)) rfl T.m_Lpen T.k_Lpen T.b_Lpen (fun σ => passAt tk σ) (pa_cons (pv 0) pa_nil)))
      (pss_cons (ps_asg (pe_callS G_Lcode (hr.mono (by decide)) rfl T.m_Lcode T.k_Lcode T.b_Lcode (fun σ => passAt tk σ) (pa_cons (pv 1) pa_nil)) (pg_un rfl (pgs_cons (pg_name (i := 2) sc_law.nd rfl (Or.inl rfl)) (pgs_cons (pg_name (i := 3) sc_law.nd rfl (Or.inl rfl)) pgs_nil))))
      (pss_cons (ps_set (i := 4) sc_law.nd rfl (Or.inl rfl) (pe_callS G_Lflat (hr.mono (by decide)) rfl T.m_Lflat T.k_Lflat T.b_Lflat (fun σ => passAt tk σ) (pa_cons (pv 2) (pa_cons (pv 3) pa_nil))))
      (pss_cons (ps_for po rfl (pi_range1 rfl T.n_range (pa_cons pe_int pa_nil)) (pg_name (i := 5) sc_law.nd rfl (Or.inl rfl)) (pss_cons (ps_asg (pe_callS G_Lbent (hr.mono (by decide)) rfl T.m_Lbent T.k_Lbent T.b_Lbent (fun σ => passAt tk σ) (pa_cons (pv 1) (pa_cons (pv 2) (pa_cons (pv 3) pa_nil)))) (pg_un rfl (pgs_cons (pg_name (i := 6) sc_law.nd rfl (Or.inl rfl)) (pgs_cons (pg_name (i := 7) sc_law.nd rfl (Or.inl rfl)) pgs_nil))))
      (pss_cons (ps_if (PW.pt (pw_or (pt_cmpR (op_neU (hr.units)) (pe_callS G_Ltried (hr.mono (by decide)) rfl T.m_Ltried T.k_Ltried T.b_Ltried (fun σ => passAt tk σ) (pa_cons pe_int (pa_cons (pv 6) (pa_cons (pv 7) pa_nil)))) pe_str (nomark _)) (pw_or1 (pt_not (pt_val (pe_callS G_Lrefused (hr.mono (by decide)) rfl T.m_Lrefused T.k_Lrefused T.b_Lrefused (fun σ => passAt tk σ) (pa_cons (pe_callS G_Lflat (hr.mono (by decide)) rfl T.m_Lflat T.k_Lflat T.b_Lflat (fun σ => passAt tk σ) (pa_cons (pv 6) (pa_cons (pv 7) pa_nil))) pa_nil))))))) (pss_one (ps_ret pe_bl)) pss_nil)
      (pss_one (ps_if (pt_not (pt_val (pe_callS G_Lrefused (hr.mono (by decide)) rfl T.m_Lrefused T.k_Lrefused T.b_Lrefused (fun σ => passAt tk σ) (pa_cons (pe_callS G_Lodd (hr.mono (by decide)) rfl T.m_Lodd T.k_Lodd T.b_Lodd (fun σ => passAt tk σ) (pa_cons (pv 1) (pa_cons (pv 4) pa_nil))) pa_nil)))) (pss_one (ps_ret pe_bl)) pss_nil)))))
      (pss_cons (ps_for po rfl (pi_list (pe_lst (pa_cons (pe_tup (pa_cons pe_non (pa_cons (pv 3) pa_nil))) (pa_cons (pe_tup (pa_cons (pv 2) (pa_cons pe_non pa_nil))) (pa_cons (pe_tup (pa_cons pe_str (pa_cons (pv 3) pa_nil))) (pa_cons (pe_tup (pa_cons (pv 2) (pa_cons pe_int pa_nil))) (pa_cons (pe_tup (pa_cons (pe_lst (pa_cons (pe_tup (pa_cons pe_int (pa_cons pe_int pa_nil))) pa_nil)) (pa_cons (pv 3) pa_nil))) (pa_cons (pe_tup (pa_cons (pv 2) (pa_cons (pe_lst (pa_cons (pe_tup (pa_cons pe_int (pa_cons pe_int (pa_cons pe_int pa_nil)))) pa_nil)) pa_nil))) pa_nil)))))))) (pg_un rfl (pgs_cons (pg_name (i := 8) sc_law.nd rfl (Or.inl rfl)) (pgs_cons (pg_name (i := 9) sc_law.nd rfl (Or.inl rfl)) pgs_nil))) (pss_one (ps_if (pt_cmpR (op_neU (hr.units)) (pe_callS G_Ltried (hr.mono (by decide)) rfl T.m_Ltried T.k_Ltried T.b_Ltried (fun σ => passAt tk σ) (pa_cons pe_int (pa_cons (pv 8) (pa_cons (pv 9) pa_nil)))) pe_str (nomark _)) (pss_one (ps_ret pe_bl)) pss_nil)))
      (pss_cons (ps_for po rfl (pi_list (pe_lst (pa_cons (pe_tup (pa_cons (pe_lst (pa_cons pe_non pa_nil)) (pa_cons (pv 3) pa_nil))) (pa_cons (pe_tup (pa_cons (pv 2) (pa_cons (pe_lst (pa_cons pe_str pa_nil)) pa_nil))) (pa_cons (pe_tup (pa_cons (pe_lst (pa_cons (pe_tup (pa_cons pe_int (pa_cons pe_int (pa_cons pe_bl pa_nil)))) pa_nil)) (pa_cons (pv 3) pa_nil))) (pa_cons (pe_tup (pa_cons (pv 2) (pa_cons (pe_lst (pa_cons (pe_tup (pa_cons pe_int (pa_cons pe_non pa_nil))) pa_nil)) pa_nil))) (pa_cons (pe_tup (pa_cons pe_dnewK (pa_cons pe_dnewK pa_nil))) pa_nil))))))) (pg_un rfl (pgs_cons (pg_name (i := 8) sc_law.nd rfl (Or.inl rfl)) (pgs_cons (pg_name (i := 9) sc_law.nd rfl (Or.inl rfl)) pgs_nil))) (pss_one (ps_if (pt_cmpR (op_neU (hr.units)) (pe_callS G_Ltried (hr.mono (by decide)) rfl T.m_Ltried T.k_Ltried T.b_Ltried (fun σ => passAt tk σ) (pa_cons pe_int (pa_cons (pv 8) (pa_cons (pv 9) pa_nil)))) pe_str (nomark _)) (pss_one (ps_ret pe_bl)) pss_nil)))
      (pss_one (ps_ret (pe_and (pe_cmpR op_isU (pe_callS G_is_code (hr.mono (by decide)) rfl T.m_is_code T.k_is_code T.b_is_code (fun σ => passAt tk σ) (pa_cons (pv 4) pa_nil)) pe_bl (nomark _)) (pe_and (pe_cmpR (op_eqU (hr.units)) (pe_callS G_Ltried (hr.mono (by decide)) rfl T.m_Ltried T.k_Ltried T.b_Ltried (fun σ => passAt tk σ) (pa_cons pe_int (pa_cons (pv 2) (pa_cons (pv 3) pa_nil)))) pe_str (nomark _)) (pe_one (pe_cmpR (op_eqU (hr.units)) (pe_callS G_Ltried (hr.mono (by decide)) rfl T.m_Ltried T.k_Ltried T.b_Ltried (fun σ => passAt tk σ) (pa_cons pe_int (pa_cons (pv 4) (pa_cons pe_non pa_nil)))) pe_str (nomark _)))))))))))))

def sp_goal (K : PySem.W.Frag) : Sp := fun vs H Q _ => ∃ (a : Addr) (ns : List Int), vs = [.ref a] ∧ Only H ∧ Scr K H a ns ∧ ns.length ≤ 63 ∧ ∀ H', Q (.bl true) H'
theorem goal_law (Z : Adr) {vs : List V} {H : Hp} {Q : VK} {E : XK} (h : sp_goal Z.K vs H Q E) : sp_law Z vs H Q E := by
  obtain ⟨a, ns, rfl, h⟩ := h
  exact ⟨_, rfl, a, ns, rfl, h⟩
/-! ### the top, and the law's own head -/
theorem all_mk {l : PySem.W.OpenLaw} {w : World} {K : PySem.W.Frag} {h : Heap} {mg : Str → Option Value} {fa : Addr} (X : K.In h) (G : h.Ns mainGlobals mg) (hfa : mg "law" = some (.ref fa))
    {tk_PUSH_codes : Tok}
    {tk_GET : Tok}
    {tk_SET : Tok}
    {tk_DROP : Tok}
    {tk_JUMP : Tok}
    {tk_UNLESS : Tok}
    {tk_CALL : Tok}
    {tk_BACK : Tok}
    {tk_FAIL_codes : Tok}
    {tk_BREATH : Tok}
    {tk_DO : Tok}
    {tk_PICK : Tok}
    {tk_MOST_FUNCTIONS : Tok}
    {tk_MOST_PARAMS : Tok}
    {tk_MOST_BOXES : Tok}
    {tk_FIRST_DONE : Tok}
    {tk_LAST_DONE : Tok}
    {tk_MOST_PICKED : Tok}
    {tk_ADD : Tok}
    {tk_SUB : Tok}
    {tk_MUL : Tok}
    {tk_QUO : Tok}
    {tk_REST : Tok}
    {tk_LESS : Tok}
    {tk_SAME : Tok}
    {tk_PUSH_deeds : Tok}
    {tk_AT : Tok}
    {tk_SIZE_deeds : Tok}
    {tk_MOST_FIGURES : Tok}
    {tk_FAIL_kinds : Tok}
    {tk_PUT : Tok}
    {tk_SIZE_kinds : Tok}
    {tk_NEW : Tok}
    {tk_MOST_GOING : Tok}
    {c_Frame : Addr}
    {c_Machine : Addr}
    {oc_is_whole kV_is_whole dc_is_whole pm_is_whole cd_is_whole ct_is_whole : Value} {od_is_whole an_is_whole : Option Addr} {sl_is_whole : Array (Option Value)} {f_is_whole : Addr}
    {oc_are_wholes kV_are_wholes dc_are_wholes pm_are_wholes cd_are_wholes ct_are_wholes : Value} {od_are_wholes an_are_wholes : Option Addr} {sl_are_wholes : Array (Option Value)} {f_are_wholes : Addr}
    {oc_fits_op kV_fits_op dc_fits_op pm_fits_op cd_fits_op ct_fits_op : Value} {od_fits_op an_fits_op : Option Addr} {sl_fits_op : Array (Option Value)} {f_fits_op : Addr}
    {oc_fits_head kV_fits_head dc_fits_head pm_fits_head cd_fits_head ct_fits_head : Value} {od_fits_head an_fits_head : Option Addr} {sl_fits_head : Array (Option Value)} {f_fits_head : Addr}
    {oc_make_code kV_make_code dc_make_code pm_make_code cd_make_code ct_make_code : Value} {od_make_code an_make_code : Option Addr} {sl_make_code : Array (Option Value)} {f_make_code : Addr}
    {oc_cut_up kV_cut_up dc_cut_up pm_cut_up cd_cut_up ct_cut_up : Value} {od_cut_up an_cut_up : Option Addr} {sl_cut_up : Array (Option Value)} {f_cut_up : Addr}
    {oc_parted_code kV_parted_code dc_parted_code pm_parted_code cd_parted_code ct_parted_code : Value} {od_parted_code an_parted_code : Option Addr} {sl_parted_code : Array (Option Value)} {f_parted_code : Addr}
    {oc_is_code kV_is_code dc_is_code pm_is_code cd_is_code ct_is_code : Value} {od_is_code an_is_code : Option Addr} {sl_is_code : Array (Option Value)} {f_is_code : Addr}
    {oc_heads_of kV_heads_of dc_heads_of pm_heads_of cd_heads_of ct_heads_of : Value} {od_heads_of an_heads_of : Option Addr} {sl_heads_of : Array (Option Value)} {f_heads_of : Addr}
    {oc_rows_of kV_rows_of dc_rows_of pm_rows_of cd_rows_of ct_rows_of : Value} {od_rows_of an_rows_of : Option Addr} {sl_rows_of : Array (Option Value)} {f_rows_of : Addr}
    {oc_code_of kV_code_of dc_code_of pm_code_of cd_code_of ct_code_of : Value} {od_code_of an_code_of : Option Addr} {sl_code_of : Array (Option Value)} {f_code_of : Addr}
    {oc_summed kV_summed dc_summed pm_summed cd_summed ct_summed : Value} {od_summed an_summed : Option Addr} {sl_summed : Array (Option Value)} {f_summed : Addr}
    {oc_parted_by kV_parted_by dc_parted_by pm_parted_by cd_parted_by ct_parted_by : Value} {od_parted_by an_parted_by : Option Addr} {sl_parted_by : Array (Option Value)} {f_parted_by : Addr}
    {oc_of_numbers kV_of_numbers dc_of_numbers pm_of_numbers cd_of_numbers ct_of_numbers : Value} {od_of_numbers an_of_numbers : Option Addr} {sl_of_numbers : Array (Option Value)} {f_of_numbers : Addr}
    {oc_of_row kV_of_row dc_of_row pm_of_row cd_of_row ct_of_row : Value} {od_of_row an_of_row : Option Addr} {sl_of_row : Array (Option Value)} {f_of_row : Addr}
    {oc_worth kV_worth dc_worth pm_worth cd_worth ct_worth : Value} {od_worth an_worth : Option Addr} {sl_worth : Array (Option Value)} {f_worth : Addr}
    {oc_parts_of kV_parts_of dc_parts_of pm_parts_of cd_parts_of ct_parts_of : Value} {od_parts_of an_parts_of : Option Addr} {sl_parts_of : Array (Option Value)} {f_parts_of : Addr}
    {oc_Frame_init kV_Frame_init dc_Frame_init pm_Frame_init cd_Frame_init ct_Frame_init : Value} {od_Frame_init an_Frame_init : Option Addr} {sl_Frame_init : Array (Option Value)} {f_Frame_init : Addr}
    {oc_Frame_take kV_Frame_take dc_Frame_take pm_Frame_take cd_Frame_take ct_Frame_take : Value} {od_Frame_take an_Frame_take : Option Addr} {sl_Frame_take : Array (Option Value)} {f_Frame_take : Addr}
    {oc_Frame_lay kV_Frame_lay dc_Frame_lay pm_Frame_lay cd_Frame_lay ct_Frame_lay : Value} {od_Frame_lay an_Frame_lay : Option Addr} {sl_Frame_lay : Array (Option Value)} {f_Frame_lay : Addr}
    {oc_Machine_init kV_Machine_init dc_Machine_init pm_Machine_init cd_Machine_init ct_Machine_init : Value} {od_Machine_init an_Machine_init : Option Addr} {sl_Machine_init : Array (Option Value)} {f_Machine_init : Addr}
    {oc_Machine_breathe kV_Machine_breathe dc_Machine_breathe pm_Machine_breathe cd_Machine_breathe ct_Machine_breathe : Value} {od_Machine_breathe an_Machine_breathe : Option Addr} {sl_Machine_breathe : Array (Option Value)} {f_Machine_breathe : Addr}
    {oc_Machine_begin kV_Machine_begin dc_Machine_begin pm_Machine_begin cd_Machine_begin ct_Machine_begin : Value} {od_Machine_begin an_Machine_begin : Option Addr} {sl_Machine_begin : Array (Option Value)} {f_Machine_begin : Addr}
    {oc_Machine_call kV_Machine_call dc_Machine_call pm_Machine_call cd_Machine_call ct_Machine_call : Value} {od_Machine_call an_Machine_call : Option Addr} {sl_Machine_call : Array (Option Value)} {f_Machine_call : Addr}
    {oc_Machine_back kV_Machine_back dc_Machine_back pm_Machine_back cd_Machine_back ct_Machine_back : Value} {od_Machine_back an_Machine_back : Option Addr} {sl_Machine_back : Array (Option Value)} {f_Machine_back : Addr}
    {oc_Machine_fail kV_Machine_fail dc_Machine_fail pm_Machine_fail cd_Machine_fail ct_Machine_fail : Value} {od_Machine_fail an_Machine_fail : Option Addr} {sl_Machine_fail : Array (Option Value)} {f_Machine_fail : Addr}
    {oc_Machine_deed kV_Machine_deed dc_Machine_deed pm_Machine_deed cd_Machine_deed ct_Machine_deed : Value} {od_Machine_deed an_Machine_deed : Option Addr} {sl_Machine_deed : Array (Option Value)} {f_Machine_deed : Addr}
    {oc_Machine_boxed kV_Machine_boxed dc_Machine_boxed pm_Machine_boxed cd_Machine_boxed ct_Machine_boxed : Value} {od_Machine_boxed an_Machine_boxed : Option Addr} {sl_Machine_boxed : Array (Option Value)} {f_Machine_boxed : Addr}
    {oc_Machine_led kV_Machine_led dc_Machine_led pm_Machine_led cd_Machine_led ct_Machine_led : Value} {od_Machine_led an_Machine_led : Option Addr} {sl_Machine_led : Array (Option Value)} {f_Machine_led : Addr}
    {oc_Machine_plain_row kV_Machine_plain_row dc_Machine_plain_row pm_Machine_plain_row cd_Machine_plain_row ct_Machine_plain_row : Value} {od_Machine_plain_row an_Machine_plain_row : Option Addr} {sl_Machine_plain_row : Array (Option Value)} {f_Machine_plain_row : Addr}
    {oc_Machine_step kV_Machine_step dc_Machine_step pm_Machine_step cd_Machine_step ct_Machine_step : Value} {od_Machine_step an_Machine_step : Option Addr} {sl_Machine_step : Array (Option Value)} {f_Machine_step : Addr}
    {oc_Machine_go_on kV_Machine_go_on dc_Machine_go_on pm_Machine_go_on cd_Machine_go_on ct_Machine_go_on : Value} {od_Machine_go_on an_Machine_go_on : Option Addr} {sl_Machine_go_on : Array (Option Value)} {f_Machine_go_on : Addr}
    {oc_go kV_go dc_go pm_go cd_go ct_go : Value} {od_go an_go : Option Addr} {sl_go : Array (Option Value)} {f_go : Addr}
    {oc_Lpen kV_Lpen dc_Lpen pm_Lpen cd_Lpen ct_Lpen : Value} {od_Lpen an_Lpen : Option Addr} {sl_Lpen : Array (Option Value)} {f_Lpen : Addr}
    {oc_Lmixed kV_Lmixed dc_Lmixed pm_Lmixed cd_Lmixed ct_Lmixed : Value} {od_Lmixed an_Lmixed : Option Addr} {sl_Lmixed : Array (Option Value)} {f_Lmixed : Addr}
    {oc_Ltake kV_Ltake dc_Ltake pm_Ltake cd_Ltake ct_Ltake : Value} {od_Ltake an_Ltake : Option Addr} {sl_Ltake : Array (Option Value)} {f_Ltake : Addr}
    {oc_Lnumber kV_Lnumber dc_Lnumber pm_Lnumber cd_Lnumber ct_Lnumber : Value} {od_Lnumber an_Lnumber : Option Addr} {sl_Lnumber : Array (Option Value)} {f_Lnumber : Addr}
    {oc_Lneeds kV_Lneeds dc_Lneeds pm_Lneeds cd_Lneeds ct_Lneeds : Value} {od_Lneeds an_Lneeds : Option Addr} {sl_Lneeds : Array (Option Value)} {f_Lneeds : Addr}
    {oc_Lrow kV_Lrow dc_Lrow pm_Lrow cd_Lrow ct_Lrow : Value} {od_Lrow an_Lrow : Option Addr} {sl_Lrow : Array (Option Value)} {f_Lrow : Addr}
    {oc_Lheight kV_Lheight dc_Lheight pm_Lheight cd_Lheight ct_Lheight : Value} {od_Lheight an_Lheight : Option Addr} {sl_Lheight : Array (Option Value)} {f_Lheight : Addr}
    {oc_Lcode kV_Lcode dc_Lcode pm_Lcode cd_Lcode ct_Lcode : Value} {od_Lcode an_Lcode : Option Addr} {sl_Lcode : Array (Option Value)} {f_Lcode : Addr}
    {oc_Lword kV_Lword dc_Lword pm_Lword cd_Lword ct_Lword : Value} {od_Lword an_Lword : Option Addr} {sl_Lword : Array (Option Value)} {f_Lword : Addr}
    {oc_Lbad_row kV_Lbad_row dc_Lbad_row pm_Lbad_row cd_Lbad_row ct_Lbad_row : Value} {od_Lbad_row an_Lbad_row : Option Addr} {sl_Lbad_row : Array (Option Value)} {f_Lbad_row : Addr}
    {oc_Lbad_head kV_Lbad_head dc_Lbad_head pm_Lbad_head cd_Lbad_head ct_Lbad_head : Value} {od_Lbad_head an_Lbad_head : Option Addr} {sl_Lbad_head : Array (Option Value)} {f_Lbad_head : Addr}
    {oc_Lflat kV_Lflat dc_Lflat pm_Lflat cd_Lflat ct_Lflat : Value} {od_Lflat an_Lflat : Option Addr} {sl_Lflat : Array (Option Value)} {f_Lflat : Addr}
    {oc_Lbent kV_Lbent dc_Lbent pm_Lbent cd_Lbent ct_Lbent : Value} {od_Lbent an_Lbent : Option Addr} {sl_Lbent : Array (Option Value)} {f_Lbent : Addr}
    {oc_Lodd kV_Lodd dc_Lodd pm_Lodd cd_Lodd ct_Lodd : Value} {od_Lodd an_Lodd : Option Addr} {sl_Lodd : Array (Option Value)} {f_Lodd : Addr}
    {oc_Ltried kV_Ltried dc_Ltried pm_Ltried cd_Ltried ct_Ltried : Value} {od_Ltried an_Ltried : Option Addr} {sl_Ltried : Array (Option Value)} {f_Ltried : Addr}
    {oc_Lrefused kV_Lrefused dc_Lrefused pm_Lrefused cd_Lrefused ct_Lrefused : Value} {od_Lrefused an_Lrefused : Option Addr} {sl_Lrefused : Array (Option Value)} {f_Lrefused : Addr}
    {oc_law kV_law dc_law pm_law cd_law ct_law : Value} {od_law an_law : Option Addr} {sl_law : Array (Option Value)} {f_law : Addr}
    {c_ChainError : Addr}
    {c_NoSheet : Addr}
    {c_NoText : Addr}
    {c_NoCode : Addr}
    {c_NoRow : Addr}
    {c_NoName : Addr}
    (i_PUSH_codes : PySem.W.nsIn K mainGlobals "PUSH_codes" = some (some (.int 0 tk_PUSH_codes)))
    (i_GET : PySem.W.nsIn K mainGlobals "GET" = some (some (.int 1 tk_GET)))
    (i_SET : PySem.W.nsIn K mainGlobals "SET" = some (some (.int 2 tk_SET)))
    (i_DROP : PySem.W.nsIn K mainGlobals "DROP" = some (some (.int 3 tk_DROP)))
    (i_JUMP : PySem.W.nsIn K mainGlobals "JUMP" = some (some (.int 4 tk_JUMP)))
    (i_UNLESS : PySem.W.nsIn K mainGlobals "UNLESS" = some (some (.int 5 tk_UNLESS)))
    (i_CALL : PySem.W.nsIn K mainGlobals "CALL" = some (some (.int 6 tk_CALL)))
    (i_BACK : PySem.W.nsIn K mainGlobals "BACK" = some (some (.int 7 tk_BACK)))
    (i_FAIL_codes : PySem.W.nsIn K mainGlobals "FAIL_codes" = some (some (.int 8 tk_FAIL_codes)))
    (i_BREATH : PySem.W.nsIn K mainGlobals "BREATH" = some (some (.int 9 tk_BREATH)))
    (i_DO : PySem.W.nsIn K mainGlobals "DO" = some (some (.int 10 tk_DO)))
    (i_PICK : PySem.W.nsIn K mainGlobals "PICK" = some (some (.int 11 tk_PICK)))
    (i_MOST_FUNCTIONS : PySem.W.nsIn K mainGlobals "MOST_FUNCTIONS" = some (some (.int 16 tk_MOST_FUNCTIONS)))
    (i_MOST_PARAMS : PySem.W.nsIn K mainGlobals "MOST_PARAMS" = some (some (.int 4 tk_MOST_PARAMS)))
    (i_MOST_BOXES : PySem.W.nsIn K mainGlobals "MOST_BOXES" = some (some (.int 12 tk_MOST_BOXES)))
    (i_FIRST_DONE : PySem.W.nsIn K mainGlobals "FIRST_DONE" = some (some (.int 8 tk_FIRST_DONE)))
    (i_LAST_DONE : PySem.W.nsIn K mainGlobals "LAST_DONE" = some (some (.int 19 tk_LAST_DONE)))
    (i_MOST_PICKED : PySem.W.nsIn K mainGlobals "MOST_PICKED" = some (some (.int 12 tk_MOST_PICKED)))
    (i_ADD : PySem.W.nsIn K mainGlobals "ADD" = some (some (.int 8 tk_ADD)))
    (i_SUB : PySem.W.nsIn K mainGlobals "SUB" = some (some (.int 9 tk_SUB)))
    (i_MUL : PySem.W.nsIn K mainGlobals "MUL" = some (some (.int 10 tk_MUL)))
    (i_QUO : PySem.W.nsIn K mainGlobals "QUO" = some (some (.int 11 tk_QUO)))
    (i_REST : PySem.W.nsIn K mainGlobals "REST" = some (some (.int 12 tk_REST)))
    (i_LESS : PySem.W.nsIn K mainGlobals "LESS" = some (some (.int 13 tk_LESS)))
    (i_SAME : PySem.W.nsIn K mainGlobals "SAME" = some (some (.int 14 tk_SAME)))
    (i_PUSH_deeds : PySem.W.nsIn K mainGlobals "PUSH_deeds" = some (some (.int 15 tk_PUSH_deeds)))
    (i_AT : PySem.W.nsIn K mainGlobals "AT" = some (some (.int 16 tk_AT)))
    (i_SIZE_deeds : PySem.W.nsIn K mainGlobals "SIZE_deeds" = some (some (.int 18 tk_SIZE_deeds)))
    (i_MOST_FIGURES : PySem.W.nsIn K mainGlobals "MOST_FIGURES" = some (some (.int 100 tk_MOST_FIGURES)))
    (i_FAIL_kinds : PySem.W.nsIn K mainGlobals "FAIL_kinds" = some (some (.int 7 tk_FAIL_kinds)))
    (i_PUT : PySem.W.nsIn K mainGlobals "PUT" = some (some (.int 17 tk_PUT)))
    (i_SIZE_kinds : PySem.W.nsIn K mainGlobals "SIZE_kinds" = some (some (.int 18 tk_SIZE_kinds)))
    (i_NEW : PySem.W.nsIn K mainGlobals "NEW" = some (some (.int 19 tk_NEW)))
    (i_MOST_GOING : PySem.W.nsIn K mainGlobals "MOST_GOING" = some (some (.int 16 tk_MOST_GOING)))
    (z_ValueError : PySem.W.nsIn K mainGlobals "ValueError" = some none)
    (z_abs : PySem.W.nsIn K mainGlobals "abs" = some none)
    (z_all : PySem.W.nsIn K mainGlobals "all" = some none)
    (z_bool : PySem.W.nsIn K mainGlobals "bool" = some none)
    (z_int : PySem.W.nsIn K mainGlobals "int" = some none)
    (z_isinstance : PySem.W.nsIn K mainGlobals "isinstance" = some none)
    (z_len : PySem.W.nsIn K mainGlobals "len" = some none)
    (z_list : PySem.W.nsIn K mainGlobals "list" = some none)
    (z_max : PySem.W.nsIn K mainGlobals "max" = some none)
    (z_range : PySem.W.nsIn K mainGlobals "range" = some none)
    (z_str : PySem.W.nsIn K mainGlobals "str" = some none)
    (z_tuple : PySem.W.nsIn K mainGlobals "tuple" = some none)
    (a_ChainError : PySem.W.nsIn K mainGlobals "ChainError" = some (some (.ref c_ChainError)))
    (eb_ChainError : PySem.W.subIn K (.ref c_ChainError) (.type "BaseException") = some true)
    (tt_ChainError : PySem.W.typeIn K (.ref c_ChainError) = some (.type "type"))
    (ic_ChainError : PySem.W.isClsIn K c_ChainError = true)
    (a_NoSheet : PySem.W.nsIn K mainGlobals "NoSheet" = some (some (.ref c_NoSheet)))
    (eb_NoSheet : PySem.W.subIn K (.ref c_NoSheet) (.type "BaseException") = some true)
    (tt_NoSheet : PySem.W.typeIn K (.ref c_NoSheet) = some (.type "type"))
    (ic_NoSheet : PySem.W.isClsIn K c_NoSheet = true)
    (a_NoText : PySem.W.nsIn K mainGlobals "NoText" = some (some (.ref c_NoText)))
    (eb_NoText : PySem.W.subIn K (.ref c_NoText) (.type "BaseException") = some true)
    (tt_NoText : PySem.W.typeIn K (.ref c_NoText) = some (.type "type"))
    (ic_NoText : PySem.W.isClsIn K c_NoText = true)
    (a_NoCode : PySem.W.nsIn K mainGlobals "NoCode" = some (some (.ref c_NoCode)))
    (oq_NoCode : PySem.W.excIn K c_NoCode [.type "ValueError", .type "Exception", .type "BaseException", .type "object"] "ValueError.__new__" = true)
    (kc_NoCode : PySem.W.keepIn K (.ref c_NoCode) = true)
    (eb_NoCode : PySem.W.subIn K (.ref c_NoCode) (.type "BaseException") = some true)
    (tt_NoCode : PySem.W.typeIn K (.ref c_NoCode) = some (.type "type"))
    (ic_NoCode : PySem.W.isClsIn K c_NoCode = true)
    (a_NoRow : PySem.W.nsIn K mainGlobals "NoRow" = some (some (.ref c_NoRow)))
    (eb_NoRow : PySem.W.subIn K (.ref c_NoRow) (.type "BaseException") = some true)
    (tt_NoRow : PySem.W.typeIn K (.ref c_NoRow) = some (.type "type"))
    (ic_NoRow : PySem.W.isClsIn K c_NoRow = true)
    (a_NoName : PySem.W.nsIn K mainGlobals "NoName" = some (some (.ref c_NoName)))
    (eb_NoName : PySem.W.subIn K (.ref c_NoName) (.type "BaseException") = some true)
    (tt_NoName : PySem.W.typeIn K (.ref c_NoName) = some (.type "type"))
    (ic_NoName : PySem.W.isClsIn K c_NoName = true)
    (es_NoCode_ChainError : PySem.W.subIn K (.ref c_NoCode) (.ref c_ChainError) = some true)
    (es_NoCode_NoCode : PySem.W.subIn K (.ref c_NoCode) (.ref c_NoCode) = some true)
    (qn_ : PySem.W.specialIn K (.builtin "object.__class__") "__get__" = some (some (.builtin "getset_descriptor.__get__")))
    (qt_ : PySem.W.takesIn K (.builtin "object.__class__") = some true)
    (qa_NoCode : PySem.W.findIn K (.ref c_NoCode) "__getattribute__" = some (some (.builtin "BaseException.__getattribute__")))
    (qg_NoCode : PySem.W.findIn K (.ref c_NoCode) "__getattr__" = some none)
    (qd_NoCode : PySem.W.hasDictIn K c_NoCode = true)
    (qc_NoCode : PySem.W.findIn K (.ref c_NoCode) "__class__" = some (some (.builtin "object.__class__")))
    (qm_NoCode : PySem.W.mroIn K c_NoCode (.type "object") = some true)
    (kv_NoCode : PySem.W.subIn K (.ref c_NoCode) (.type "ValueError") = some true)
    (kr_NoCode : PySem.W.subIn K (.ref c_NoCode) (.ref c_NoCode) = some true)
    (ki_NoCode_NoCode : PySem.W.subIn K (.ref c_NoCode) (.ref c_NoCode) = some true)
    (ki_NoCode_NoName : PySem.W.subIn K (.ref c_NoCode) (.ref c_NoName) = some false)
    (ki_NoCode_NoRow : PySem.W.subIn K (.ref c_NoCode) (.ref c_NoRow) = some false)
    (ki_NoCode_NoSheet : PySem.W.subIn K (.ref c_NoCode) (.ref c_NoSheet) = some false)
    (ki_NoCode_NoText : PySem.W.subIn K (.ref c_NoCode) (.ref c_NoText) = some false)
    (a_Frame : PySem.W.nsIn K mainGlobals "Frame" = some (some (.ref c_Frame)))
    (pg_Frame : PySem.W.plainGet K c_Frame Str.empty = true)
    (hd_Frame : PySem.W.hasDictIn K c_Frame = true)
    (po_Frame : PySem.W.plainOver K c_Frame = true)
    (sa_Frame : PySem.W.findIn K (.ref c_Frame) "__setattr__" = some (some (.builtin "object.__setattr__")))
    (mk_Frame : PySem.W.makesIn K c_Frame = true)
    (kc_Frame : PySem.W.keepIn K (.ref c_Frame) = true)
    (at_Frame_init : PySem.W.findIn K (.ref c_Frame) "__init__" = some (some (.ref f_Frame_init)))
    (fn_Frame_init : PySem.W.isFn K (.ref f_Frame_init) = true)
    (at_Frame_take : PySem.W.findIn K (.ref c_Frame) "take" = some (some (.ref f_Frame_take)))
    (fn_Frame_take : PySem.W.isFn K (.ref f_Frame_take) = true)
    (at_Frame_lay : PySem.W.findIn K (.ref c_Frame) "lay" = some (some (.ref f_Frame_lay)))
    (fn_Frame_lay : PySem.W.isFn K (.ref f_Frame_lay) = true)
    (no_Frame_at : PySem.W.findIn K (.ref c_Frame) "at" = some none)
    (no_Frame_boxes : PySem.W.findIn K (.ref c_Frame) "boxes" = some none)
    (no_Frame_values_there : PySem.W.findIn K (.ref c_Frame) "values_there" = some none)
    (a_Machine : PySem.W.nsIn K mainGlobals "Machine" = some (some (.ref c_Machine)))
    (pg_Machine : PySem.W.plainGet K c_Machine Str.empty = true)
    (hd_Machine : PySem.W.hasDictIn K c_Machine = true)
    (po_Machine : PySem.W.plainOver K c_Machine = true)
    (sa_Machine : PySem.W.findIn K (.ref c_Machine) "__setattr__" = some (some (.builtin "object.__setattr__")))
    (mk_Machine : PySem.W.makesIn K c_Machine = true)
    (kc_Machine : PySem.W.keepIn K (.ref c_Machine) = true)
    (at_Machine_init : PySem.W.findIn K (.ref c_Machine) "__init__" = some (some (.ref f_Machine_init)))
    (fn_Machine_init : PySem.W.isFn K (.ref f_Machine_init) = true)
    (at_Machine_breathe : PySem.W.findIn K (.ref c_Machine) "breathe" = some (some (.ref f_Machine_breathe)))
    (fn_Machine_breathe : PySem.W.isFn K (.ref f_Machine_breathe) = true)
    (at_Machine_begin : PySem.W.findIn K (.ref c_Machine) "begin" = some (some (.ref f_Machine_begin)))
    (fn_Machine_begin : PySem.W.isFn K (.ref f_Machine_begin) = true)
    (at_Machine_call : PySem.W.findIn K (.ref c_Machine) "call" = some (some (.ref f_Machine_call)))
    (fn_Machine_call : PySem.W.isFn K (.ref f_Machine_call) = true)
    (at_Machine_back : PySem.W.findIn K (.ref c_Machine) "back" = some (some (.ref f_Machine_back)))
    (fn_Machine_back : PySem.W.isFn K (.ref f_Machine_back) = true)
    (at_Machine_fail : PySem.W.findIn K (.ref c_Machine) "fail" = some (some (.ref f_Machine_fail)))
    (fn_Machine_fail : PySem.W.isFn K (.ref f_Machine_fail) = true)
    (at_Machine_deed : PySem.W.findIn K (.ref c_Machine) "deed" = some (some (.ref f_Machine_deed)))
    (fn_Machine_deed : PySem.W.isFn K (.ref f_Machine_deed) = true)
    (at_Machine_boxed : PySem.W.findIn K (.ref c_Machine) "boxed" = some (some (.ref f_Machine_boxed)))
    (fn_Machine_boxed : PySem.W.isFn K (.ref f_Machine_boxed) = true)
    (at_Machine_led : PySem.W.findIn K (.ref c_Machine) "led" = some (some (.ref f_Machine_led)))
    (fn_Machine_led : PySem.W.isFn K (.ref f_Machine_led) = true)
    (at_Machine_plain_row : PySem.W.findIn K (.ref c_Machine) "plain_row" = some (some (.ref f_Machine_plain_row)))
    (fn_Machine_plain_row : PySem.W.isFn K (.ref f_Machine_plain_row) = true)
    (at_Machine_step : PySem.W.findIn K (.ref c_Machine) "step" = some (some (.ref f_Machine_step)))
    (fn_Machine_step : PySem.W.isFn K (.ref f_Machine_step) = true)
    (at_Machine_go_on : PySem.W.findIn K (.ref c_Machine) "go_on" = some (some (.ref f_Machine_go_on)))
    (fn_Machine_go_on : PySem.W.isFn K (.ref f_Machine_go_on) = true)
    (no_Machine_heads : PySem.W.findIn K (.ref c_Machine) "heads" = some none)
    (no_Machine_code_rows : PySem.W.findIn K (.ref c_Machine) "code_rows" = some none)
    (no_Machine_heap : PySem.W.findIn K (.ref c_Machine) "heap" = some none)
    (no_Machine_breaths : PySem.W.findIn K (.ref c_Machine) "breaths" = some none)
    (no_Machine_frames : PySem.W.findIn K (.ref c_Machine) "frames" = some none)
    (no_Machine_number : PySem.W.findIn K (.ref c_Machine) "number" = some none)
    (a_is_whole : PySem.W.nsIn K mainGlobals "is_whole" = some (some (.ref f_is_whole)))
    (l_is_whole : K.lookup f_is_whole = some ⟨oc_is_whole, od_is_whole, .func (PySem.W.fnOf "is_whole" "is_whole" (defArgs st_is_whole) (defBody st_is_whole) (defScope st_is_whole) .none kV_is_whole dc_is_whole pm_is_whole an_is_whole cd_is_whole ct_is_whole), sl_is_whole⟩)
    (c_is_whole : PySem.W.codeIn K cd_is_whole "is_whole" = true)
    (k_is_whole : PySem.W.keepIn K (.ref f_is_whole) = true)
    (a_are_wholes : PySem.W.nsIn K mainGlobals "are_wholes" = some (some (.ref f_are_wholes)))
    (l_are_wholes : K.lookup f_are_wholes = some ⟨oc_are_wholes, od_are_wholes, .func (PySem.W.fnOf "are_wholes" "are_wholes" (defArgs st_are_wholes) (defBody st_are_wholes) (defScope st_are_wholes) .none kV_are_wholes dc_are_wholes pm_are_wholes an_are_wholes cd_are_wholes ct_are_wholes), sl_are_wholes⟩)
    (c_are_wholes : PySem.W.codeIn K cd_are_wholes "are_wholes" = true)
    (k_are_wholes : PySem.W.keepIn K (.ref f_are_wholes) = true)
    (a_fits_op : PySem.W.nsIn K mainGlobals "fits_op" = some (some (.ref f_fits_op)))
    (l_fits_op : K.lookup f_fits_op = some ⟨oc_fits_op, od_fits_op, .func (PySem.W.fnOf "fits_op" "fits_op" (defArgs st_fits_op) (defBody st_fits_op) (defScope st_fits_op) .none kV_fits_op dc_fits_op pm_fits_op an_fits_op cd_fits_op ct_fits_op), sl_fits_op⟩)
    (c_fits_op : PySem.W.codeIn K cd_fits_op "fits_op" = true)
    (k_fits_op : PySem.W.keepIn K (.ref f_fits_op) = true)
    (a_fits_head : PySem.W.nsIn K mainGlobals "fits_head" = some (some (.ref f_fits_head)))
    (l_fits_head : K.lookup f_fits_head = some ⟨oc_fits_head, od_fits_head, .func (PySem.W.fnOf "fits_head" "fits_head" (defArgs st_fits_head) (defBody st_fits_head) (defScope st_fits_head) .none kV_fits_head dc_fits_head pm_fits_head an_fits_head cd_fits_head ct_fits_head), sl_fits_head⟩)
    (c_fits_head : PySem.W.codeIn K cd_fits_head "fits_head" = true)
    (k_fits_head : PySem.W.keepIn K (.ref f_fits_head) = true)
    (a_make_code : PySem.W.nsIn K mainGlobals "make_code" = some (some (.ref f_make_code)))
    (l_make_code : K.lookup f_make_code = some ⟨oc_make_code, od_make_code, .func (PySem.W.fnOf "make_code" "make_code" (defArgs st_make_code) (defBody st_make_code) (defScope st_make_code) .none kV_make_code dc_make_code pm_make_code an_make_code cd_make_code ct_make_code), sl_make_code⟩)
    (c_make_code : PySem.W.codeIn K cd_make_code "make_code" = true)
    (k_make_code : PySem.W.keepIn K (.ref f_make_code) = true)
    (a_cut_up : PySem.W.nsIn K mainGlobals "cut_up" = some (some (.ref f_cut_up)))
    (l_cut_up : K.lookup f_cut_up = some ⟨oc_cut_up, od_cut_up, .func (PySem.W.fnOf "cut_up" "cut_up" (defArgs st_cut_up) (defBody st_cut_up) (defScope st_cut_up) .none kV_cut_up dc_cut_up pm_cut_up an_cut_up cd_cut_up ct_cut_up), sl_cut_up⟩)
    (c_cut_up : PySem.W.codeIn K cd_cut_up "cut_up" = true)
    (k_cut_up : PySem.W.keepIn K (.ref f_cut_up) = true)
    (a_parted_code : PySem.W.nsIn K mainGlobals "parted_code" = some (some (.ref f_parted_code)))
    (l_parted_code : K.lookup f_parted_code = some ⟨oc_parted_code, od_parted_code, .func (PySem.W.fnOf "parted_code" "parted_code" (defArgs st_parted_code) (defBody st_parted_code) (defScope st_parted_code) .none kV_parted_code dc_parted_code pm_parted_code an_parted_code cd_parted_code ct_parted_code), sl_parted_code⟩)
    (c_parted_code : PySem.W.codeIn K cd_parted_code "parted_code" = true)
    (k_parted_code : PySem.W.keepIn K (.ref f_parted_code) = true)
    (a_is_code : PySem.W.nsIn K mainGlobals "is_code" = some (some (.ref f_is_code)))
    (l_is_code : K.lookup f_is_code = some ⟨oc_is_code, od_is_code, .func (PySem.W.fnOf "is_code" "is_code" (defArgs st_is_code) (defBody st_is_code) (defScope st_is_code) .none kV_is_code dc_is_code pm_is_code an_is_code cd_is_code ct_is_code), sl_is_code⟩)
    (c_is_code : PySem.W.codeIn K cd_is_code "is_code" = true)
    (k_is_code : PySem.W.keepIn K (.ref f_is_code) = true)
    (a_heads_of : PySem.W.nsIn K mainGlobals "heads_of" = some (some (.ref f_heads_of)))
    (l_heads_of : K.lookup f_heads_of = some ⟨oc_heads_of, od_heads_of, .func (PySem.W.fnOf "heads_of" "heads_of" (defArgs st_heads_of) (defBody st_heads_of) (defScope st_heads_of) .none kV_heads_of dc_heads_of pm_heads_of an_heads_of cd_heads_of ct_heads_of), sl_heads_of⟩)
    (c_heads_of : PySem.W.codeIn K cd_heads_of "heads_of" = true)
    (k_heads_of : PySem.W.keepIn K (.ref f_heads_of) = true)
    (a_rows_of : PySem.W.nsIn K mainGlobals "rows_of" = some (some (.ref f_rows_of)))
    (l_rows_of : K.lookup f_rows_of = some ⟨oc_rows_of, od_rows_of, .func (PySem.W.fnOf "rows_of" "rows_of" (defArgs st_rows_of) (defBody st_rows_of) (defScope st_rows_of) .none kV_rows_of dc_rows_of pm_rows_of an_rows_of cd_rows_of ct_rows_of), sl_rows_of⟩)
    (c_rows_of : PySem.W.codeIn K cd_rows_of "rows_of" = true)
    (k_rows_of : PySem.W.keepIn K (.ref f_rows_of) = true)
    (a_code_of : PySem.W.nsIn K mainGlobals "code_of" = some (some (.ref f_code_of)))
    (l_code_of : K.lookup f_code_of = some ⟨oc_code_of, od_code_of, .func (PySem.W.fnOf "code_of" "code_of" (defArgs st_code_of) (defBody st_code_of) (defScope st_code_of) .none kV_code_of dc_code_of pm_code_of an_code_of cd_code_of ct_code_of), sl_code_of⟩)
    (c_code_of : PySem.W.codeIn K cd_code_of "code_of" = true)
    (k_code_of : PySem.W.keepIn K (.ref f_code_of) = true)
    (a_summed : PySem.W.nsIn K mainGlobals "summed" = some (some (.ref f_summed)))
    (l_summed : K.lookup f_summed = some ⟨oc_summed, od_summed, .func (PySem.W.fnOf "summed" "summed" (defArgs st_summed) (defBody st_summed) (defScope st_summed) .none kV_summed dc_summed pm_summed an_summed cd_summed ct_summed), sl_summed⟩)
    (c_summed : PySem.W.codeIn K cd_summed "summed" = true)
    (k_summed : PySem.W.keepIn K (.ref f_summed) = true)
    (a_parted_by : PySem.W.nsIn K mainGlobals "parted_by" = some (some (.ref f_parted_by)))
    (l_parted_by : K.lookup f_parted_by = some ⟨oc_parted_by, od_parted_by, .func (PySem.W.fnOf "parted_by" "parted_by" (defArgs st_parted_by) (defBody st_parted_by) (defScope st_parted_by) .none kV_parted_by dc_parted_by pm_parted_by an_parted_by cd_parted_by ct_parted_by), sl_parted_by⟩)
    (c_parted_by : PySem.W.codeIn K cd_parted_by "parted_by" = true)
    (k_parted_by : PySem.W.keepIn K (.ref f_parted_by) = true)
    (a_of_numbers : PySem.W.nsIn K mainGlobals "of_numbers" = some (some (.ref f_of_numbers)))
    (l_of_numbers : K.lookup f_of_numbers = some ⟨oc_of_numbers, od_of_numbers, .func (PySem.W.fnOf "of_numbers" "of_numbers" (defArgs st_of_numbers) (defBody st_of_numbers) (defScope st_of_numbers) .none kV_of_numbers dc_of_numbers pm_of_numbers an_of_numbers cd_of_numbers ct_of_numbers), sl_of_numbers⟩)
    (c_of_numbers : PySem.W.codeIn K cd_of_numbers "of_numbers" = true)
    (k_of_numbers : PySem.W.keepIn K (.ref f_of_numbers) = true)
    (a_of_row : PySem.W.nsIn K mainGlobals "of_row" = some (some (.ref f_of_row)))
    (l_of_row : K.lookup f_of_row = some ⟨oc_of_row, od_of_row, .func (PySem.W.fnOf "of_row" "of_row" (defArgs st_of_row) (defBody st_of_row) (defScope st_of_row) .none kV_of_row dc_of_row pm_of_row an_of_row cd_of_row ct_of_row), sl_of_row⟩)
    (c_of_row : PySem.W.codeIn K cd_of_row "of_row" = true)
    (k_of_row : PySem.W.keepIn K (.ref f_of_row) = true)
    (a_worth : PySem.W.nsIn K mainGlobals "worth" = some (some (.ref f_worth)))
    (l_worth : K.lookup f_worth = some ⟨oc_worth, od_worth, .func (PySem.W.fnOf "worth" "worth" (defArgs st_worth) (defBody st_worth) (defScope st_worth) .none kV_worth dc_worth pm_worth an_worth cd_worth ct_worth), sl_worth⟩)
    (c_worth : PySem.W.codeIn K cd_worth "worth" = true)
    (k_worth : PySem.W.keepIn K (.ref f_worth) = true)
    (a_parts_of : PySem.W.nsIn K mainGlobals "parts_of" = some (some (.ref f_parts_of)))
    (l_parts_of : K.lookup f_parts_of = some ⟨oc_parts_of, od_parts_of, .func (PySem.W.fnOf "parts_of" "parts_of" (defArgs st_parts_of) (defBody st_parts_of) (defScope st_parts_of) .none kV_parts_of dc_parts_of pm_parts_of an_parts_of cd_parts_of ct_parts_of), sl_parts_of⟩)
    (c_parts_of : PySem.W.codeIn K cd_parts_of "parts_of" = true)
    (k_parts_of : PySem.W.keepIn K (.ref f_parts_of) = true)
    (l_Frame_init : K.lookup f_Frame_init = some ⟨oc_Frame_init, od_Frame_init, .func (PySem.W.fnOf "__init__" "Frame.__init__" (defArgs st_Frame_init) (defBody st_Frame_init) (defScope st_Frame_init) .none kV_Frame_init dc_Frame_init pm_Frame_init an_Frame_init cd_Frame_init ct_Frame_init), sl_Frame_init⟩)
    (c_Frame_init : PySem.W.codeIn K cd_Frame_init "Frame.__init__" = true)
    (k_Frame_init : PySem.W.keepIn K (.ref f_Frame_init) = true)
    (l_Frame_take : K.lookup f_Frame_take = some ⟨oc_Frame_take, od_Frame_take, .func (PySem.W.fnOf "take" "Frame.take" (defArgs st_Frame_take) (defBody st_Frame_take) (defScope st_Frame_take) .none kV_Frame_take dc_Frame_take pm_Frame_take an_Frame_take cd_Frame_take ct_Frame_take), sl_Frame_take⟩)
    (c_Frame_take : PySem.W.codeIn K cd_Frame_take "Frame.take" = true)
    (k_Frame_take : PySem.W.keepIn K (.ref f_Frame_take) = true)
    (l_Frame_lay : K.lookup f_Frame_lay = some ⟨oc_Frame_lay, od_Frame_lay, .func (PySem.W.fnOf "lay" "Frame.lay" (defArgs st_Frame_lay) (defBody st_Frame_lay) (defScope st_Frame_lay) .none kV_Frame_lay dc_Frame_lay pm_Frame_lay an_Frame_lay cd_Frame_lay ct_Frame_lay), sl_Frame_lay⟩)
    (c_Frame_lay : PySem.W.codeIn K cd_Frame_lay "Frame.lay" = true)
    (k_Frame_lay : PySem.W.keepIn K (.ref f_Frame_lay) = true)
    (l_Machine_init : K.lookup f_Machine_init = some ⟨oc_Machine_init, od_Machine_init, .func (PySem.W.fnOf "__init__" "Machine.__init__" (defArgs st_Machine_init) (defBody st_Machine_init) (defScope st_Machine_init) .none kV_Machine_init dc_Machine_init pm_Machine_init an_Machine_init cd_Machine_init ct_Machine_init), sl_Machine_init⟩)
    (c_Machine_init : PySem.W.codeIn K cd_Machine_init "Machine.__init__" = true)
    (k_Machine_init : PySem.W.keepIn K (.ref f_Machine_init) = true)
    (l_Machine_breathe : K.lookup f_Machine_breathe = some ⟨oc_Machine_breathe, od_Machine_breathe, .func (PySem.W.fnOf "breathe" "Machine.breathe" (defArgs st_Machine_breathe) (defBody st_Machine_breathe) (defScope st_Machine_breathe) .none kV_Machine_breathe dc_Machine_breathe pm_Machine_breathe an_Machine_breathe cd_Machine_breathe ct_Machine_breathe), sl_Machine_breathe⟩)
    (c_Machine_breathe : PySem.W.codeIn K cd_Machine_breathe "Machine.breathe" = true)
    (k_Machine_breathe : PySem.W.keepIn K (.ref f_Machine_breathe) = true)
    (l_Machine_begin : K.lookup f_Machine_begin = some ⟨oc_Machine_begin, od_Machine_begin, .func (PySem.W.fnOf "begin" "Machine.begin" (defArgs st_Machine_begin) (defBody st_Machine_begin) (defScope st_Machine_begin) .none kV_Machine_begin dc_Machine_begin pm_Machine_begin an_Machine_begin cd_Machine_begin ct_Machine_begin), sl_Machine_begin⟩)
    (c_Machine_begin : PySem.W.codeIn K cd_Machine_begin "Machine.begin" = true)
    (k_Machine_begin : PySem.W.keepIn K (.ref f_Machine_begin) = true)
    (l_Machine_call : K.lookup f_Machine_call = some ⟨oc_Machine_call, od_Machine_call, .func (PySem.W.fnOf "call" "Machine.call" (defArgs st_Machine_call) (defBody st_Machine_call) (defScope st_Machine_call) .none kV_Machine_call dc_Machine_call pm_Machine_call an_Machine_call cd_Machine_call ct_Machine_call), sl_Machine_call⟩)
    (c_Machine_call : PySem.W.codeIn K cd_Machine_call "Machine.call" = true)
    (k_Machine_call : PySem.W.keepIn K (.ref f_Machine_call) = true)
    (l_Machine_back : K.lookup f_Machine_back = some ⟨oc_Machine_back, od_Machine_back, .func (PySem.W.fnOf "back" "Machine.back" (defArgs st_Machine_back) (defBody st_Machine_back) (defScope st_Machine_back) .none kV_Machine_back dc_Machine_back pm_Machine_back an_Machine_back cd_Machine_back ct_Machine_back), sl_Machine_back⟩)
    (c_Machine_back : PySem.W.codeIn K cd_Machine_back "Machine.back" = true)
    (k_Machine_back : PySem.W.keepIn K (.ref f_Machine_back) = true)
    (l_Machine_fail : K.lookup f_Machine_fail = some ⟨oc_Machine_fail, od_Machine_fail, .func (PySem.W.fnOf "fail" "Machine.fail" (defArgs st_Machine_fail) (defBody st_Machine_fail) (defScope st_Machine_fail) .none kV_Machine_fail dc_Machine_fail pm_Machine_fail an_Machine_fail cd_Machine_fail ct_Machine_fail), sl_Machine_fail⟩)
    (c_Machine_fail : PySem.W.codeIn K cd_Machine_fail "Machine.fail" = true)
    (k_Machine_fail : PySem.W.keepIn K (.ref f_Machine_fail) = true)
    (l_Machine_deed : K.lookup f_Machine_deed = some ⟨oc_Machine_deed, od_Machine_deed, .func (PySem.W.fnOf "deed" "Machine.deed" (defArgs st_Machine_deed) (defBody st_Machine_deed) (defScope st_Machine_deed) .none kV_Machine_deed dc_Machine_deed pm_Machine_deed an_Machine_deed cd_Machine_deed ct_Machine_deed), sl_Machine_deed⟩)
    (c_Machine_deed : PySem.W.codeIn K cd_Machine_deed "Machine.deed" = true)
    (k_Machine_deed : PySem.W.keepIn K (.ref f_Machine_deed) = true)
    (l_Machine_boxed : K.lookup f_Machine_boxed = some ⟨oc_Machine_boxed, od_Machine_boxed, .func (PySem.W.fnOf "boxed" "Machine.boxed" (defArgs st_Machine_boxed) (defBody st_Machine_boxed) (defScope st_Machine_boxed) .none kV_Machine_boxed dc_Machine_boxed pm_Machine_boxed an_Machine_boxed cd_Machine_boxed ct_Machine_boxed), sl_Machine_boxed⟩)
    (c_Machine_boxed : PySem.W.codeIn K cd_Machine_boxed "Machine.boxed" = true)
    (k_Machine_boxed : PySem.W.keepIn K (.ref f_Machine_boxed) = true)
    (l_Machine_led : K.lookup f_Machine_led = some ⟨oc_Machine_led, od_Machine_led, .func (PySem.W.fnOf "led" "Machine.led" (defArgs st_Machine_led) (defBody st_Machine_led) (defScope st_Machine_led) .none kV_Machine_led dc_Machine_led pm_Machine_led an_Machine_led cd_Machine_led ct_Machine_led), sl_Machine_led⟩)
    (c_Machine_led : PySem.W.codeIn K cd_Machine_led "Machine.led" = true)
    (k_Machine_led : PySem.W.keepIn K (.ref f_Machine_led) = true)
    (l_Machine_plain_row : K.lookup f_Machine_plain_row = some ⟨oc_Machine_plain_row, od_Machine_plain_row, .func (PySem.W.fnOf "plain_row" "Machine.plain_row" (defArgs st_Machine_plain_row) (defBody st_Machine_plain_row) (defScope st_Machine_plain_row) .none kV_Machine_plain_row dc_Machine_plain_row pm_Machine_plain_row an_Machine_plain_row cd_Machine_plain_row ct_Machine_plain_row), sl_Machine_plain_row⟩)
    (c_Machine_plain_row : PySem.W.codeIn K cd_Machine_plain_row "Machine.plain_row" = true)
    (k_Machine_plain_row : PySem.W.keepIn K (.ref f_Machine_plain_row) = true)
    (l_Machine_step : K.lookup f_Machine_step = some ⟨oc_Machine_step, od_Machine_step, .func (PySem.W.fnOf "step" "Machine.step" (defArgs st_Machine_step) (defBody st_Machine_step) (defScope st_Machine_step) .none kV_Machine_step dc_Machine_step pm_Machine_step an_Machine_step cd_Machine_step ct_Machine_step), sl_Machine_step⟩)
    (c_Machine_step : PySem.W.codeIn K cd_Machine_step "Machine.step" = true)
    (k_Machine_step : PySem.W.keepIn K (.ref f_Machine_step) = true)
    (l_Machine_go_on : K.lookup f_Machine_go_on = some ⟨oc_Machine_go_on, od_Machine_go_on, .func (PySem.W.fnOf "go_on" "Machine.go_on" (defArgs st_Machine_go_on) (defBody st_Machine_go_on) (defScope st_Machine_go_on) .none kV_Machine_go_on dc_Machine_go_on pm_Machine_go_on an_Machine_go_on cd_Machine_go_on ct_Machine_go_on), sl_Machine_go_on⟩)
    (c_Machine_go_on : PySem.W.codeIn K cd_Machine_go_on "Machine.go_on" = true)
    (k_Machine_go_on : PySem.W.keepIn K (.ref f_Machine_go_on) = true)
    (a_go : PySem.W.nsIn K mainGlobals "go" = some (some (.ref f_go)))
    (l_go : K.lookup f_go = some ⟨oc_go, od_go, .func (PySem.W.fnOf "go" "go" (defArgs st_go) (defBody st_go) (defScope st_go) .none kV_go dc_go pm_go an_go cd_go ct_go), sl_go⟩)
    (c_go : PySem.W.codeIn K cd_go "go" = true)
    (k_go : PySem.W.keepIn K (.ref f_go) = true)
    (a_Lpen : PySem.W.nsIn K mainGlobals "_law_pen" = some (some (.ref f_Lpen)))
    (l_Lpen : K.lookup f_Lpen = some ⟨oc_Lpen, od_Lpen, .func (PySem.W.fnOf "_law_pen" "_law_pen" (defArgs st_Lpen) (defBody st_Lpen) (defScope st_Lpen) .none kV_Lpen dc_Lpen pm_Lpen an_Lpen cd_Lpen ct_Lpen), sl_Lpen⟩)
    (c_Lpen : PySem.W.codeIn K cd_Lpen "_law_pen" = true)
    (k_Lpen : PySem.W.keepIn K (.ref f_Lpen) = true)
    (a_Lmixed : PySem.W.nsIn K mainGlobals "_law_mixed" = some (some (.ref f_Lmixed)))
    (l_Lmixed : K.lookup f_Lmixed = some ⟨oc_Lmixed, od_Lmixed, .func (PySem.W.fnOf "_law_mixed" "_law_mixed" (defArgs st_Lmixed) (defBody st_Lmixed) (defScope st_Lmixed) .none kV_Lmixed dc_Lmixed pm_Lmixed an_Lmixed cd_Lmixed ct_Lmixed), sl_Lmixed⟩)
    (c_Lmixed : PySem.W.codeIn K cd_Lmixed "_law_mixed" = true)
    (k_Lmixed : PySem.W.keepIn K (.ref f_Lmixed) = true)
    (a_Ltake : PySem.W.nsIn K mainGlobals "_law_take" = some (some (.ref f_Ltake)))
    (l_Ltake : K.lookup f_Ltake = some ⟨oc_Ltake, od_Ltake, .func (PySem.W.fnOf "_law_take" "_law_take" (defArgs st_Ltake) (defBody st_Ltake) (defScope st_Ltake) .none kV_Ltake dc_Ltake pm_Ltake an_Ltake cd_Ltake ct_Ltake), sl_Ltake⟩)
    (c_Ltake : PySem.W.codeIn K cd_Ltake "_law_take" = true)
    (k_Ltake : PySem.W.keepIn K (.ref f_Ltake) = true)
    (a_Lnumber : PySem.W.nsIn K mainGlobals "_law_number" = some (some (.ref f_Lnumber)))
    (l_Lnumber : K.lookup f_Lnumber = some ⟨oc_Lnumber, od_Lnumber, .func (PySem.W.fnOf "_law_number" "_law_number" (defArgs st_Lnumber) (defBody st_Lnumber) (defScope st_Lnumber) .none kV_Lnumber dc_Lnumber pm_Lnumber an_Lnumber cd_Lnumber ct_Lnumber), sl_Lnumber⟩)
    (c_Lnumber : PySem.W.codeIn K cd_Lnumber "_law_number" = true)
    (k_Lnumber : PySem.W.keepIn K (.ref f_Lnumber) = true)
    (a_Lneeds : PySem.W.nsIn K mainGlobals "_law_needs" = some (some (.ref f_Lneeds)))
    (l_Lneeds : K.lookup f_Lneeds = some ⟨oc_Lneeds, od_Lneeds, .func (PySem.W.fnOf "_law_needs" "_law_needs" (defArgs st_Lneeds) (defBody st_Lneeds) (defScope st_Lneeds) .none kV_Lneeds dc_Lneeds pm_Lneeds an_Lneeds cd_Lneeds ct_Lneeds), sl_Lneeds⟩)
    (c_Lneeds : PySem.W.codeIn K cd_Lneeds "_law_needs" = true)
    (k_Lneeds : PySem.W.keepIn K (.ref f_Lneeds) = true)
    (a_Lrow : PySem.W.nsIn K mainGlobals "_law_row" = some (some (.ref f_Lrow)))
    (l_Lrow : K.lookup f_Lrow = some ⟨oc_Lrow, od_Lrow, .func (PySem.W.fnOf "_law_row" "_law_row" (defArgs st_Lrow) (defBody st_Lrow) (defScope st_Lrow) .none kV_Lrow dc_Lrow pm_Lrow an_Lrow cd_Lrow ct_Lrow), sl_Lrow⟩)
    (c_Lrow : PySem.W.codeIn K cd_Lrow "_law_row" = true)
    (k_Lrow : PySem.W.keepIn K (.ref f_Lrow) = true)
    (a_Lheight : PySem.W.nsIn K mainGlobals "_law_height" = some (some (.ref f_Lheight)))
    (l_Lheight : K.lookup f_Lheight = some ⟨oc_Lheight, od_Lheight, .func (PySem.W.fnOf "_law_height" "_law_height" (defArgs st_Lheight) (defBody st_Lheight) (defScope st_Lheight) .none kV_Lheight dc_Lheight pm_Lheight an_Lheight cd_Lheight ct_Lheight), sl_Lheight⟩)
    (c_Lheight : PySem.W.codeIn K cd_Lheight "_law_height" = true)
    (k_Lheight : PySem.W.keepIn K (.ref f_Lheight) = true)
    (a_Lcode : PySem.W.nsIn K mainGlobals "_law_code" = some (some (.ref f_Lcode)))
    (l_Lcode : K.lookup f_Lcode = some ⟨oc_Lcode, od_Lcode, .func (PySem.W.fnOf "_law_code" "_law_code" (defArgs st_Lcode) (defBody st_Lcode) (defScope st_Lcode) .none kV_Lcode dc_Lcode pm_Lcode an_Lcode cd_Lcode ct_Lcode), sl_Lcode⟩)
    (c_Lcode : PySem.W.codeIn K cd_Lcode "_law_code" = true)
    (k_Lcode : PySem.W.keepIn K (.ref f_Lcode) = true)
    (a_Lword : PySem.W.nsIn K mainGlobals "_law_word" = some (some (.ref f_Lword)))
    (l_Lword : K.lookup f_Lword = some ⟨oc_Lword, od_Lword, .func (PySem.W.fnOf "_law_word" "_law_word" (defArgs st_Lword) (defBody st_Lword) (defScope st_Lword) .none kV_Lword dc_Lword pm_Lword an_Lword cd_Lword ct_Lword), sl_Lword⟩)
    (c_Lword : PySem.W.codeIn K cd_Lword "_law_word" = true)
    (k_Lword : PySem.W.keepIn K (.ref f_Lword) = true)
    (a_Lbad_row : PySem.W.nsIn K mainGlobals "_law_bad_row" = some (some (.ref f_Lbad_row)))
    (l_Lbad_row : K.lookup f_Lbad_row = some ⟨oc_Lbad_row, od_Lbad_row, .func (PySem.W.fnOf "_law_bad_row" "_law_bad_row" (defArgs st_Lbad_row) (defBody st_Lbad_row) (defScope st_Lbad_row) .none kV_Lbad_row dc_Lbad_row pm_Lbad_row an_Lbad_row cd_Lbad_row ct_Lbad_row), sl_Lbad_row⟩)
    (c_Lbad_row : PySem.W.codeIn K cd_Lbad_row "_law_bad_row" = true)
    (k_Lbad_row : PySem.W.keepIn K (.ref f_Lbad_row) = true)
    (a_Lbad_head : PySem.W.nsIn K mainGlobals "_law_bad_head" = some (some (.ref f_Lbad_head)))
    (l_Lbad_head : K.lookup f_Lbad_head = some ⟨oc_Lbad_head, od_Lbad_head, .func (PySem.W.fnOf "_law_bad_head" "_law_bad_head" (defArgs st_Lbad_head) (defBody st_Lbad_head) (defScope st_Lbad_head) .none kV_Lbad_head dc_Lbad_head pm_Lbad_head an_Lbad_head cd_Lbad_head ct_Lbad_head), sl_Lbad_head⟩)
    (c_Lbad_head : PySem.W.codeIn K cd_Lbad_head "_law_bad_head" = true)
    (k_Lbad_head : PySem.W.keepIn K (.ref f_Lbad_head) = true)
    (a_Lflat : PySem.W.nsIn K mainGlobals "_law_flat" = some (some (.ref f_Lflat)))
    (l_Lflat : K.lookup f_Lflat = some ⟨oc_Lflat, od_Lflat, .func (PySem.W.fnOf "_law_flat" "_law_flat" (defArgs st_Lflat) (defBody st_Lflat) (defScope st_Lflat) .none kV_Lflat dc_Lflat pm_Lflat an_Lflat cd_Lflat ct_Lflat), sl_Lflat⟩)
    (c_Lflat : PySem.W.codeIn K cd_Lflat "_law_flat" = true)
    (k_Lflat : PySem.W.keepIn K (.ref f_Lflat) = true)
    (a_Lbent : PySem.W.nsIn K mainGlobals "_law_bent" = some (some (.ref f_Lbent)))
    (l_Lbent : K.lookup f_Lbent = some ⟨oc_Lbent, od_Lbent, .func (PySem.W.fnOf "_law_bent" "_law_bent" (defArgs st_Lbent) (defBody st_Lbent) (defScope st_Lbent) .none kV_Lbent dc_Lbent pm_Lbent an_Lbent cd_Lbent ct_Lbent), sl_Lbent⟩)
    (c_Lbent : PySem.W.codeIn K cd_Lbent "_law_bent" = true)
    (k_Lbent : PySem.W.keepIn K (.ref f_Lbent) = true)
    (a_Lodd : PySem.W.nsIn K mainGlobals "_law_odd" = some (some (.ref f_Lodd)))
    (l_Lodd : K.lookup f_Lodd = some ⟨oc_Lodd, od_Lodd, .func (PySem.W.fnOf "_law_odd" "_law_odd" (defArgs st_Lodd) (defBody st_Lodd) (defScope st_Lodd) .none kV_Lodd dc_Lodd pm_Lodd an_Lodd cd_Lodd ct_Lodd), sl_Lodd⟩)
    (c_Lodd : PySem.W.codeIn K cd_Lodd "_law_odd" = true)
    (k_Lodd : PySem.W.keepIn K (.ref f_Lodd) = true)
    (a_Ltried : PySem.W.nsIn K mainGlobals "_law_tried" = some (some (.ref f_Ltried)))
    (l_Ltried : K.lookup f_Ltried = some ⟨oc_Ltried, od_Ltried, .func (PySem.W.fnOf "_law_tried" "_law_tried" (defArgs st_Ltried) (defBody st_Ltried) (defScope st_Ltried) .none kV_Ltried dc_Ltried pm_Ltried an_Ltried cd_Ltried ct_Ltried), sl_Ltried⟩)
    (c_Ltried : PySem.W.codeIn K cd_Ltried "_law_tried" = true)
    (k_Ltried : PySem.W.keepIn K (.ref f_Ltried) = true)
    (a_Lrefused : PySem.W.nsIn K mainGlobals "_law_refused" = some (some (.ref f_Lrefused)))
    (l_Lrefused : K.lookup f_Lrefused = some ⟨oc_Lrefused, od_Lrefused, .func (PySem.W.fnOf "_law_refused" "_law_refused" (defArgs st_Lrefused) (defBody st_Lrefused) (defScope st_Lrefused) .none kV_Lrefused dc_Lrefused pm_Lrefused an_Lrefused cd_Lrefused ct_Lrefused), sl_Lrefused⟩)
    (c_Lrefused : PySem.W.codeIn K cd_Lrefused "_law_refused" = true)
    (k_Lrefused : PySem.W.keepIn K (.ref f_Lrefused) = true)
    (a_law : PySem.W.nsIn K mainGlobals "law" = some (some (.ref f_law)))
    (l_law : K.lookup f_law = some ⟨oc_law, od_law, .func (PySem.W.fnOf "law" "law" (defArgs st_law) (defBody st_law) (defScope st_law) .none kV_law dc_law pm_law an_law cd_law ct_law), sl_law⟩)
    (c_law : PySem.W.codeIn K cd_law "law" = true)
    (k_law : PySem.W.keepIn K (.ref f_law) = true) :
    ∃ fd : FuncData, (∀ (s : Shared) (v : Value), BindsTo s fd ⟨[v], []⟩ [("_law_script", v)]) ∧ ∀ base : Heap, K.In base → base.Ns mainGlobals mg → ∃ Z : Adr, Z.K = K ∧ FnOk l.prog w K mg base (L2.CX l.prog w) 10 fa fd ["_law_script"] (sp_law Z) := by
  have e := hfa.symm.trans (PySem.W.mg_of X G a_law)
  cases e
  let Z : Adr := {
      K := K
      mg := mg
      t_PUSH_codes := tk_PUSH_codes
      t_GET := tk_GET
      t_SET := tk_SET
      t_DROP := tk_DROP
      t_JUMP := tk_JUMP
      t_UNLESS := tk_UNLESS
      t_CALL := tk_CALL
      t_BACK := tk_BACK
      t_FAIL_codes := tk_FAIL_codes
      t_BREATH := tk_BREATH
      t_DO := tk_DO
      t_PICK := tk_PICK
      t_MOST_FUNCTIONS := tk_MOST_FUNCTIONS
      t_MOST_PARAMS := tk_MOST_PARAMS
      t_MOST_BOXES := tk_MOST_BOXES
      t_FIRST_DONE := tk_FIRST_DONE
      t_LAST_DONE := tk_LAST_DONE
      t_MOST_PICKED := tk_MOST_PICKED
      t_ADD := tk_ADD
      t_SUB := tk_SUB
      t_MUL := tk_MUL
      t_QUO := tk_QUO
      t_REST := tk_REST
      t_LESS := tk_LESS
      t_SAME := tk_SAME
      t_PUSH_deeds := tk_PUSH_deeds
      t_AT := tk_AT
      t_SIZE_deeds := tk_SIZE_deeds
      t_MOST_FIGURES := tk_MOST_FIGURES
      t_FAIL_kinds := tk_FAIL_kinds
      t_PUT := tk_PUT
      t_SIZE_kinds := tk_SIZE_kinds
      t_NEW := tk_NEW
      t_MOST_GOING := tk_MOST_GOING
      c_Frame := c_Frame
      c_Machine := c_Machine
      f_is_whole := f_is_whole
      d_is_whole := PySem.W.fnOf "is_whole" "is_whole" (defArgs st_is_whole) (defBody st_is_whole) (defScope st_is_whole) .none kV_is_whole dc_is_whole pm_is_whole an_is_whole cd_is_whole ct_is_whole
      f_are_wholes := f_are_wholes
      d_are_wholes := PySem.W.fnOf "are_wholes" "are_wholes" (defArgs st_are_wholes) (defBody st_are_wholes) (defScope st_are_wholes) .none kV_are_wholes dc_are_wholes pm_are_wholes an_are_wholes cd_are_wholes ct_are_wholes
      f_fits_op := f_fits_op
      d_fits_op := PySem.W.fnOf "fits_op" "fits_op" (defArgs st_fits_op) (defBody st_fits_op) (defScope st_fits_op) .none kV_fits_op dc_fits_op pm_fits_op an_fits_op cd_fits_op ct_fits_op
      f_fits_head := f_fits_head
      d_fits_head := PySem.W.fnOf "fits_head" "fits_head" (defArgs st_fits_head) (defBody st_fits_head) (defScope st_fits_head) .none kV_fits_head dc_fits_head pm_fits_head an_fits_head cd_fits_head ct_fits_head
      f_make_code := f_make_code
      d_make_code := PySem.W.fnOf "make_code" "make_code" (defArgs st_make_code) (defBody st_make_code) (defScope st_make_code) .none kV_make_code dc_make_code pm_make_code an_make_code cd_make_code ct_make_code
      f_cut_up := f_cut_up
      d_cut_up := PySem.W.fnOf "cut_up" "cut_up" (defArgs st_cut_up) (defBody st_cut_up) (defScope st_cut_up) .none kV_cut_up dc_cut_up pm_cut_up an_cut_up cd_cut_up ct_cut_up
      f_parted_code := f_parted_code
      d_parted_code := PySem.W.fnOf "parted_code" "parted_code" (defArgs st_parted_code) (defBody st_parted_code) (defScope st_parted_code) .none kV_parted_code dc_parted_code pm_parted_code an_parted_code cd_parted_code ct_parted_code
      f_is_code := f_is_code
      d_is_code := PySem.W.fnOf "is_code" "is_code" (defArgs st_is_code) (defBody st_is_code) (defScope st_is_code) .none kV_is_code dc_is_code pm_is_code an_is_code cd_is_code ct_is_code
      f_heads_of := f_heads_of
      d_heads_of := PySem.W.fnOf "heads_of" "heads_of" (defArgs st_heads_of) (defBody st_heads_of) (defScope st_heads_of) .none kV_heads_of dc_heads_of pm_heads_of an_heads_of cd_heads_of ct_heads_of
      f_rows_of := f_rows_of
      d_rows_of := PySem.W.fnOf "rows_of" "rows_of" (defArgs st_rows_of) (defBody st_rows_of) (defScope st_rows_of) .none kV_rows_of dc_rows_of pm_rows_of an_rows_of cd_rows_of ct_rows_of
      f_code_of := f_code_of
      d_code_of := PySem.W.fnOf "code_of" "code_of" (defArgs st_code_of) (defBody st_code_of) (defScope st_code_of) .none kV_code_of dc_code_of pm_code_of an_code_of cd_code_of ct_code_of
      f_summed := f_summed
      d_summed := PySem.W.fnOf "summed" "summed" (defArgs st_summed) (defBody st_summed) (defScope st_summed) .none kV_summed dc_summed pm_summed an_summed cd_summed ct_summed
      f_parted_by := f_parted_by
      d_parted_by := PySem.W.fnOf "parted_by" "parted_by" (defArgs st_parted_by) (defBody st_parted_by) (defScope st_parted_by) .none kV_parted_by dc_parted_by pm_parted_by an_parted_by cd_parted_by ct_parted_by
      f_of_numbers := f_of_numbers
      d_of_numbers := PySem.W.fnOf "of_numbers" "of_numbers" (defArgs st_of_numbers) (defBody st_of_numbers) (defScope st_of_numbers) .none kV_of_numbers dc_of_numbers pm_of_numbers an_of_numbers cd_of_numbers ct_of_numbers
      f_of_row := f_of_row
      d_of_row := PySem.W.fnOf "of_row" "of_row" (defArgs st_of_row) (defBody st_of_row) (defScope st_of_row) .none kV_of_row dc_of_row pm_of_row an_of_row cd_of_row ct_of_row
      f_worth := f_worth
      d_worth := PySem.W.fnOf "worth" "worth" (defArgs st_worth) (defBody st_worth) (defScope st_worth) .none kV_worth dc_worth pm_worth an_worth cd_worth ct_worth
      f_parts_of := f_parts_of
      d_parts_of := PySem.W.fnOf "parts_of" "parts_of" (defArgs st_parts_of) (defBody st_parts_of) (defScope st_parts_of) .none kV_parts_of dc_parts_of pm_parts_of an_parts_of cd_parts_of ct_parts_of
      f_Frame_init := f_Frame_init
      d_Frame_init := PySem.W.fnOf "__init__" "Frame.__init__" (defArgs st_Frame_init) (defBody st_Frame_init) (defScope st_Frame_init) .none kV_Frame_init dc_Frame_init pm_Frame_init an_Frame_init cd_Frame_init ct_Frame_init
      f_Frame_take := f_Frame_take
      d_Frame_take := PySem.W.fnOf "take" "Frame.take" (defArgs st_Frame_take) (defBody st_Frame_take) (defScope st_Frame_take) .none kV_Frame_take dc_Frame_take pm_Frame_take an_Frame_take cd_Frame_take ct_Frame_take
      f_Frame_lay := f_Frame_lay
      d_Frame_lay := PySem.W.fnOf "lay" "Frame.lay" (defArgs st_Frame_lay) (defBody st_Frame_lay) (defScope st_Frame_lay) .none kV_Frame_lay dc_Frame_lay pm_Frame_lay an_Frame_lay cd_Frame_lay ct_Frame_lay
      f_Machine_init := f_Machine_init
      d_Machine_init := PySem.W.fnOf "__init__" "Machine.__init__" (defArgs st_Machine_init) (defBody st_Machine_init) (defScope st_Machine_init) .none kV_Machine_init dc_Machine_init pm_Machine_init an_Machine_init cd_Machine_init ct_Machine_init
      f_Machine_breathe := f_Machine_breathe
      d_Machine_breathe := PySem.W.fnOf "breathe" "Machine.breathe" (defArgs st_Machine_breathe) (defBody st_Machine_breathe) (defScope st_Machine_breathe) .none kV_Machine_breathe dc_Machine_breathe pm_Machine_breathe an_Machine_breathe cd_Machine_breathe ct_Machine_breathe
      f_Machine_begin := f_Machine_begin
      d_Machine_begin := PySem.W.fnOf "begin" "Machine.begin" (defArgs st_Machine_begin) (defBody st_Machine_begin) (defScope st_Machine_begin) .none kV_Machine_begin dc_Machine_begin pm_Machine_begin an_Machine_begin cd_Machine_begin ct_Machine_begin
      f_Machine_call := f_Machine_call
      d_Machine_call := PySem.W.fnOf "call" "Machine.call" (defArgs st_Machine_call) (defBody st_Machine_call) (defScope st_Machine_call) .none kV_Machine_call dc_Machine_call pm_Machine_call an_Machine_call cd_Machine_call ct_Machine_call
      f_Machine_back := f_Machine_back
      d_Machine_back := PySem.W.fnOf "back" "Machine.back" (defArgs st_Machine_back) (defBody st_Machine_back) (defScope st_Machine_back) .none kV_Machine_back dc_Machine_back pm_Machine_back an_Machine_back cd_Machine_back ct_Machine_back
      f_Machine_fail := f_Machine_fail
      d_Machine_fail := PySem.W.fnOf "fail" "Machine.fail" (defArgs st_Machine_fail) (defBody st_Machine_fail) (defScope st_Machine_fail) .none kV_Machine_fail dc_Machine_fail pm_Machine_fail an_Machine_fail cd_Machine_fail ct_Machine_fail
      f_Machine_deed := f_Machine_deed
      d_Machine_deed := PySem.W.fnOf "deed" "Machine.deed" (defArgs st_Machine_deed) (defBody st_Machine_deed) (defScope st_Machine_deed) .none kV_Machine_deed dc_Machine_deed pm_Machine_deed an_Machine_deed cd_Machine_deed ct_Machine_deed
      f_Machine_boxed := f_Machine_boxed
      d_Machine_boxed := PySem.W.fnOf "boxed" "Machine.boxed" (defArgs st_Machine_boxed) (defBody st_Machine_boxed) (defScope st_Machine_boxed) .none kV_Machine_boxed dc_Machine_boxed pm_Machine_boxed an_Machine_boxed cd_Machine_boxed ct_Machine_boxed
      f_Machine_led := f_Machine_led
      d_Machine_led := PySem.W.fnOf "led" "Machine.led" (defArgs st_Machine_led) (defBody st_Machine_led) (defScope st_Machine_led) .none kV_Machine_led dc_Machine_led pm_Machine_led an_Machine_led cd_Machine_led ct_Machine_led
      f_Machine_plain_row := f_Machine_plain_row
      d_Machine_plain_row := PySem.W.fnOf "plain_row" "Machine.plain_row" (defArgs st_Machine_plain_row) (defBody st_Machine_plain_row) (defScope st_Machine_plain_row) .none kV_Machine_plain_row dc_Machine_plain_row pm_Machine_plain_row an_Machine_plain_row cd_Machine_plain_row ct_Machine_plain_row
      f_Machine_step := f_Machine_step
      d_Machine_step := PySem.W.fnOf "step" "Machine.step" (defArgs st_Machine_step) (defBody st_Machine_step) (defScope st_Machine_step) .none kV_Machine_step dc_Machine_step pm_Machine_step an_Machine_step cd_Machine_step ct_Machine_step
      f_Machine_go_on := f_Machine_go_on
      d_Machine_go_on := PySem.W.fnOf "go_on" "Machine.go_on" (defArgs st_Machine_go_on) (defBody st_Machine_go_on) (defScope st_Machine_go_on) .none kV_Machine_go_on dc_Machine_go_on pm_Machine_go_on an_Machine_go_on cd_Machine_go_on ct_Machine_go_on
      f_go := f_go
      d_go := PySem.W.fnOf "go" "go" (defArgs st_go) (defBody st_go) (defScope st_go) .none kV_go dc_go pm_go an_go cd_go ct_go
      f_Lpen := f_Lpen
      d_Lpen := PySem.W.fnOf "_law_pen" "_law_pen" (defArgs st_Lpen) (defBody st_Lpen) (defScope st_Lpen) .none kV_Lpen dc_Lpen pm_Lpen an_Lpen cd_Lpen ct_Lpen
      f_Lmixed := f_Lmixed
      d_Lmixed := PySem.W.fnOf "_law_mixed" "_law_mixed" (defArgs st_Lmixed) (defBody st_Lmixed) (defScope st_Lmixed) .none kV_Lmixed dc_Lmixed pm_Lmixed an_Lmixed cd_Lmixed ct_Lmixed
      f_Ltake := f_Ltake
      d_Ltake := PySem.W.fnOf "_law_take" "_law_take" (defArgs st_Ltake) (defBody st_Ltake) (defScope st_Ltake) .none kV_Ltake dc_Ltake pm_Ltake an_Ltake cd_Ltake ct_Ltake
      f_Lnumber := f_Lnumber
      d_Lnumber := PySem.W.fnOf "_law_number" "_law_number" (defArgs st_Lnumber) (defBody st_Lnumber) (defScope st_Lnumber) .none kV_Lnumber dc_Lnumber pm_Lnumber an_Lnumber cd_Lnumber ct_Lnumber
      f_Lneeds := f_Lneeds
      d_Lneeds := PySem.W.fnOf "_law_needs" "_law_needs" (defArgs st_Lneeds) (defBody st_Lneeds) (defScope st_Lneeds) .none kV_Lneeds dc_Lneeds pm_Lneeds an_Lneeds cd_Lneeds ct_Lneeds
      f_Lrow := f_Lrow
      d_Lrow := PySem.W.fnOf "_law_row" "_law_row" (defArgs st_Lrow) (defBody st_Lrow) (defScope st_Lrow) .none kV_Lrow dc_Lrow pm_Lrow an_Lrow cd_Lrow ct_Lrow
      f_Lheight := f_Lheight
      d_Lheight := PySem.W.fnOf "_law_height" "_law_height" (defArgs st_Lheight) (defBody st_Lheight) (defScope st_Lheight) .none kV_Lheight dc_Lheight pm_Lheight an_Lheight cd_Lheight ct_Lheight
      f_Lcode := f_Lcode
      d_Lcode := PySem.W.fnOf "_law_code" "_law_code" (defArgs st_Lcode) (defBody st_Lcode) (defScope st_Lcode) .none kV_Lcode dc_Lcode pm_Lcode an_Lcode cd_Lcode ct_Lcode
      f_Lword := f_Lword
      d_Lword := PySem.W.fnOf "_law_word" "_law_word" (defArgs st_Lword) (defBody st_Lword) (defScope st_Lword) .none kV_Lword dc_Lword pm_Lword an_Lword cd_Lword ct_Lword
      f_Lbad_row := f_Lbad_row
      d_Lbad_row := PySem.W.fnOf "_law_bad_row" "_law_bad_row" (defArgs st_Lbad_row) (defBody st_Lbad_row) (defScope st_Lbad_row) .none kV_Lbad_row dc_Lbad_row pm_Lbad_row an_Lbad_row cd_Lbad_row ct_Lbad_row
      f_Lbad_head := f_Lbad_head
      d_Lbad_head := PySem.W.fnOf "_law_bad_head" "_law_bad_head" (defArgs st_Lbad_head) (defBody st_Lbad_head) (defScope st_Lbad_head) .none kV_Lbad_head dc_Lbad_head pm_Lbad_head an_Lbad_head cd_Lbad_head ct_Lbad_head
      f_Lflat := f_Lflat
      d_Lflat := PySem.W.fnOf "_law_flat" "_law_flat" (defArgs st_Lflat) (defBody st_Lflat) (defScope st_Lflat) .none kV_Lflat dc_Lflat pm_Lflat an_Lflat cd_Lflat ct_Lflat
      f_Lbent := f_Lbent
      d_Lbent := PySem.W.fnOf "_law_bent" "_law_bent" (defArgs st_Lbent) (defBody st_Lbent) (defScope st_Lbent) .none kV_Lbent dc_Lbent pm_Lbent an_Lbent cd_Lbent ct_Lbent
      f_Lodd := f_Lodd
      d_Lodd := PySem.W.fnOf "_law_odd" "_law_odd" (defArgs st_Lodd) (defBody st_Lodd) (defScope st_Lodd) .none kV_Lodd dc_Lodd pm_Lodd an_Lodd cd_Lodd ct_Lodd
      f_Ltried := f_Ltried
      d_Ltried := PySem.W.fnOf "_law_tried" "_law_tried" (defArgs st_Ltried) (defBody st_Ltried) (defScope st_Ltried) .none kV_Ltried dc_Ltried pm_Ltried an_Ltried cd_Ltried ct_Ltried
      f_Lrefused := f_Lrefused
      d_Lrefused := PySem.W.fnOf "_law_refused" "_law_refused" (defArgs st_Lrefused) (defBody st_Lrefused) (defScope st_Lrefused) .none kV_Lrefused dc_Lrefused pm_Lrefused an_Lrefused cd_Lrefused ct_Lrefused
      f_law := fa
      d_law := PySem.W.fnOf "law" "law" (defArgs st_law) (defBody st_law) (defScope st_law) .none kV_law dc_law pm_law an_law cd_law ct_law
      c_ChainError := c_ChainError
      c_NoSheet := c_NoSheet
      c_NoText := c_NoText
      c_NoCode := c_NoCode
      c_NoRow := c_NoRow
      c_NoName := c_NoName }
  have T : Top Z := {
      g_PUSH_codes := PySem.W.mg_of X G i_PUSH_codes
      g_GET := PySem.W.mg_of X G i_GET
      g_SET := PySem.W.mg_of X G i_SET
      g_DROP := PySem.W.mg_of X G i_DROP
      g_JUMP := PySem.W.mg_of X G i_JUMP
      g_UNLESS := PySem.W.mg_of X G i_UNLESS
      g_CALL := PySem.W.mg_of X G i_CALL
      g_BACK := PySem.W.mg_of X G i_BACK
      g_FAIL_codes := PySem.W.mg_of X G i_FAIL_codes
      g_BREATH := PySem.W.mg_of X G i_BREATH
      g_DO := PySem.W.mg_of X G i_DO
      g_PICK := PySem.W.mg_of X G i_PICK
      g_MOST_FUNCTIONS := PySem.W.mg_of X G i_MOST_FUNCTIONS
      g_MOST_PARAMS := PySem.W.mg_of X G i_MOST_PARAMS
      g_MOST_BOXES := PySem.W.mg_of X G i_MOST_BOXES
      g_FIRST_DONE := PySem.W.mg_of X G i_FIRST_DONE
      g_LAST_DONE := PySem.W.mg_of X G i_LAST_DONE
      g_MOST_PICKED := PySem.W.mg_of X G i_MOST_PICKED
      g_ADD := PySem.W.mg_of X G i_ADD
      g_SUB := PySem.W.mg_of X G i_SUB
      g_MUL := PySem.W.mg_of X G i_MUL
      g_QUO := PySem.W.mg_of X G i_QUO
      g_REST := PySem.W.mg_of X G i_REST
      g_LESS := PySem.W.mg_of X G i_LESS
      g_SAME := PySem.W.mg_of X G i_SAME
      g_PUSH_deeds := PySem.W.mg_of X G i_PUSH_deeds
      g_AT := PySem.W.mg_of X G i_AT
      g_SIZE_deeds := PySem.W.mg_of X G i_SIZE_deeds
      g_MOST_FIGURES := PySem.W.mg_of X G i_MOST_FIGURES
      g_FAIL_kinds := PySem.W.mg_of X G i_FAIL_kinds
      g_PUT := PySem.W.mg_of X G i_PUT
      g_SIZE_kinds := PySem.W.mg_of X G i_SIZE_kinds
      g_NEW := PySem.W.mg_of X G i_NEW
      g_MOST_GOING := PySem.W.mg_of X G i_MOST_GOING
      n_ValueError := PySem.W.mg_none_of X G z_ValueError
      n_abs := PySem.W.mg_none_of X G z_abs
      n_all := PySem.W.mg_none_of X G z_all
      n_bool := PySem.W.mg_none_of X G z_bool
      n_int := PySem.W.mg_none_of X G z_int
      n_isinstance := PySem.W.mg_none_of X G z_isinstance
      n_len := PySem.W.mg_none_of X G z_len
      n_list := PySem.W.mg_none_of X G z_list
      n_max := PySem.W.mg_none_of X G z_max
      n_range := PySem.W.mg_none_of X G z_range
      n_str := PySem.W.mg_none_of X G z_str
      n_tuple := PySem.W.mg_none_of X G z_tuple
      mt_Frame_take := ⟨at_Frame_take, fn_Frame_take, k_Frame_take⟩
      mt_Frame_lay := ⟨at_Frame_lay, fn_Frame_lay, k_Frame_lay⟩
      na_Frame_at := no_Frame_at
      na_Frame_boxes := no_Frame_boxes
      na_Frame_values_there := no_Frame_values_there
      g_Frame := PySem.W.mg_of X G a_Frame
      cl_Frame := ⟨pg_Frame, hd_Frame, po_Frame, sa_Frame⟩
      M_Frame := ⟨mk_Frame, at_Frame_init, fn_Frame_init, kc_Frame⟩
      mt_Machine_breathe := ⟨at_Machine_breathe, fn_Machine_breathe, k_Machine_breathe⟩
      mt_Machine_begin := ⟨at_Machine_begin, fn_Machine_begin, k_Machine_begin⟩
      mt_Machine_call := ⟨at_Machine_call, fn_Machine_call, k_Machine_call⟩
      mt_Machine_back := ⟨at_Machine_back, fn_Machine_back, k_Machine_back⟩
      mt_Machine_fail := ⟨at_Machine_fail, fn_Machine_fail, k_Machine_fail⟩
      mt_Machine_deed := ⟨at_Machine_deed, fn_Machine_deed, k_Machine_deed⟩
      mt_Machine_boxed := ⟨at_Machine_boxed, fn_Machine_boxed, k_Machine_boxed⟩
      mt_Machine_led := ⟨at_Machine_led, fn_Machine_led, k_Machine_led⟩
      mt_Machine_plain_row := ⟨at_Machine_plain_row, fn_Machine_plain_row, k_Machine_plain_row⟩
      mt_Machine_step := ⟨at_Machine_step, fn_Machine_step, k_Machine_step⟩
      mt_Machine_go_on := ⟨at_Machine_go_on, fn_Machine_go_on, k_Machine_go_on⟩
      na_Machine_heads := no_Machine_heads
      na_Machine_code_rows := no_Machine_code_rows
      na_Machine_heap := no_Machine_heap
      na_Machine_breaths := no_Machine_breaths
      na_Machine_frames := no_Machine_frames
      na_Machine_number := no_Machine_number
      g_Machine := PySem.W.mg_of X G a_Machine
      cl_Machine := ⟨pg_Machine, hd_Machine, po_Machine, sa_Machine⟩
      M_Machine := ⟨mk_Machine, at_Machine_init, fn_Machine_init, kc_Machine⟩
      m_is_whole := PySem.W.mg_of X G a_is_whole
      F_is_whole := fun_mk (st := st_is_whole) l_is_whole c_is_whole k_is_whole
      b_is_whole := (fun_mk (st := st_is_whole) l_is_whole c_is_whole k_is_whole).binds (ps := ["thing"]) fun _ _ _ _ _ _ us hl => match us, hl with | [_], _ => rfl
      m_are_wholes := PySem.W.mg_of X G a_are_wholes
      F_are_wholes := fun_mk (st := st_are_wholes) l_are_wholes c_are_wholes k_are_wholes
      b_are_wholes := (fun_mk (st := st_are_wholes) l_are_wholes c_are_wholes k_are_wholes).binds (ps := ["things", "many"]) fun _ _ _ _ _ _ us hl => match us, hl with | [_, _], _ => rfl
      m_fits_op := PySem.W.mg_of X G a_fits_op
      F_fits_op := fun_mk (st := st_fits_op) l_fits_op c_fits_op k_fits_op
      b_fits_op := (fun_mk (st := st_fits_op) l_fits_op c_fits_op k_fits_op).binds (ps := ["op", "number", "functions", "rows"]) fun _ _ _ _ _ _ us hl => match us, hl with | [_, _, _, _], _ => rfl
      m_fits_head := PySem.W.mg_of X G a_fits_head
      F_fits_head := fun_mk (st := st_fits_head) l_fits_head c_fits_head k_fits_head
      b_fits_head := (fun_mk (st := st_fits_head) l_fits_head c_fits_head k_fits_head).binds (ps := ["head", "at", "rows"]) fun _ _ _ _ _ _ us hl => match us, hl with | [_, _, _], _ => rfl
      m_make_code := PySem.W.mg_of X G a_make_code
      F_make_code := fun_mk (st := st_make_code) l_make_code c_make_code k_make_code
      b_make_code := (fun_mk (st := st_make_code) l_make_code c_make_code k_make_code).binds (ps := ["heads", "rows"]) fun _ _ _ _ _ _ us hl => match us, hl with | [_, _], _ => rfl
      m_cut_up := PySem.W.mg_of X G a_cut_up
      F_cut_up := fun_mk (st := st_cut_up) l_cut_up c_cut_up k_cut_up
      b_cut_up := (fun_mk (st := st_cut_up) l_cut_up c_cut_up k_cut_up).binds (ps := ["numbers", "size"]) fun _ _ _ _ _ _ us hl => match us, hl with | [_, _], _ => rfl
      m_parted_code := PySem.W.mg_of X G a_parted_code
      F_parted_code := fun_mk (st := st_parted_code) l_parted_code c_parted_code k_parted_code
      b_parted_code := (fun_mk (st := st_parted_code) l_parted_code c_parted_code k_parted_code).binds (ps := ["thing"]) fun _ _ _ _ _ _ us hl => match us, hl with | [_], _ => rfl
      m_is_code := PySem.W.mg_of X G a_is_code
      F_is_code := fun_mk (st := st_is_code) l_is_code c_is_code k_is_code
      b_is_code := (fun_mk (st := st_is_code) l_is_code c_is_code k_is_code).binds (ps := ["thing"]) fun _ _ _ _ _ _ us hl => match us, hl with | [_], _ => rfl
      m_heads_of := PySem.W.mg_of X G a_heads_of
      F_heads_of := fun_mk (st := st_heads_of) l_heads_of c_heads_of k_heads_of
      b_heads_of := (fun_mk (st := st_heads_of) l_heads_of c_heads_of k_heads_of).binds (ps := ["code"]) fun _ _ _ _ _ _ us hl => match us, hl with | [_], _ => rfl
      m_rows_of := PySem.W.mg_of X G a_rows_of
      F_rows_of := fun_mk (st := st_rows_of) l_rows_of c_rows_of k_rows_of
      b_rows_of := (fun_mk (st := st_rows_of) l_rows_of c_rows_of k_rows_of).binds (ps := ["code"]) fun _ _ _ _ _ _ us hl => match us, hl with | [_], _ => rfl
      m_code_of := PySem.W.mg_of X G a_code_of
      F_code_of := fun_mk (st := st_code_of) l_code_of c_code_of k_code_of
      b_code_of := (fun_mk (st := st_code_of) l_code_of c_code_of k_code_of).binds (ps := ["heads", "rows"]) fun _ _ _ _ _ _ us hl => match us, hl with | [_, _], _ => rfl
      m_summed := PySem.W.mg_of X G a_summed
      F_summed := fun_mk (st := st_summed) l_summed c_summed k_summed
      b_summed := (fun_mk (st := st_summed) l_summed c_summed k_summed).binds (ps := ["kind", "one", "other"]) fun _ _ _ _ _ _ us hl => match us, hl with | [_, _, _], _ => rfl
      m_parted_by := PySem.W.mg_of X G a_parted_by
      F_parted_by := fun_mk (st := st_parted_by) l_parted_by c_parted_by k_parted_by
      b_parted_by := (fun_mk (st := st_parted_by) l_parted_by c_parted_by k_parted_by).binds (ps := ["kind", "one", "other"]) fun _ _ _ _ _ _ us hl => match us, hl with | [_, _, _], _ => rfl
      m_of_numbers := PySem.W.mg_of X G a_of_numbers
      F_of_numbers := fun_mk (st := st_of_numbers) l_of_numbers c_of_numbers k_of_numbers
      b_of_numbers := (fun_mk (st := st_of_numbers) l_of_numbers c_of_numbers k_of_numbers).binds (ps := ["kind", "values"]) fun _ _ _ _ _ _ us hl => match us, hl with | [_, _], _ => rfl
      m_of_row := PySem.W.mg_of X G a_of_row
      F_of_row := fun_mk (st := st_of_row) l_of_row c_of_row k_of_row
      b_of_row := (fun_mk (st := st_of_row) l_of_row c_of_row k_of_row).binds (ps := ["kind", "values", "row"]) fun _ _ _ _ _ _ us hl => match us, hl with | [_, _, _], _ => rfl
      m_worth := PySem.W.mg_of X G a_worth
      F_worth := fun_mk (st := st_worth) l_worth c_worth k_worth
      b_worth := (fun_mk (st := st_worth) l_worth c_worth k_worth).binds (ps := ["kind", "values", "rows"]) fun _ _ _ _ _ _ us hl => match us, hl with | [_, _, _], _ => rfl
      m_parts_of := PySem.W.mg_of X G a_parts_of
      F_parts_of := fun_mk (st := st_parts_of) l_parts_of c_parts_of k_parts_of
      b_parts_of := (fun_mk (st := st_parts_of) l_parts_of c_parts_of k_parts_of).binds (ps := ["kind"]) fun _ _ _ _ _ _ us hl => match us, hl with | [_], _ => rfl
      F_Frame_init := fun_mk (st := st_Frame_init) l_Frame_init c_Frame_init k_Frame_init
      b_Frame_init := (fun_mk (st := st_Frame_init) l_Frame_init c_Frame_init k_Frame_init).binds (ps := ["self", "start", "boxes"]) fun _ _ _ _ _ _ us hl => match us, hl with | [_, _, _], _ => rfl
      F_Frame_take := fun_mk (st := st_Frame_take) l_Frame_take c_Frame_take k_Frame_take
      b_Frame_take := (fun_mk (st := st_Frame_take) l_Frame_take c_Frame_take k_Frame_take).binds (ps := ["self", "many"]) fun _ _ _ _ _ _ us hl => match us, hl with | [_, _], _ => rfl
      F_Frame_lay := fun_mk (st := st_Frame_lay) l_Frame_lay c_Frame_lay k_Frame_lay
      b_Frame_lay := (fun_mk (st := st_Frame_lay) l_Frame_lay c_Frame_lay k_Frame_lay).binds (ps := ["self", "value"]) fun _ _ _ _ _ _ us hl => match us, hl with | [_, _], _ => rfl
      F_Machine_init := fun_mk (st := st_Machine_init) l_Machine_init c_Machine_init k_Machine_init
      b_Machine_init := (fun_mk (st := st_Machine_init) l_Machine_init c_Machine_init k_Machine_init).binds (ps := ["self", "code", "given", "breaths"]) fun _ _ _ _ _ _ us hl => match us, hl with | [_, _, _, _], _ => rfl
      F_Machine_breathe := fun_mk (st := st_Machine_breathe) l_Machine_breathe c_Machine_breathe k_Machine_breathe
      b_Machine_breathe := (fun_mk (st := st_Machine_breathe) l_Machine_breathe c_Machine_breathe k_Machine_breathe).binds (ps := ["self"]) fun _ _ _ _ _ _ us hl => match us, hl with | [_], _ => rfl
      F_Machine_begin := fun_mk (st := st_Machine_begin) l_Machine_begin c_Machine_begin k_Machine_begin
      b_Machine_begin := (fun_mk (st := st_Machine_begin) l_Machine_begin c_Machine_begin k_Machine_begin).binds (ps := ["self", "function", "params"]) fun _ _ _ _ _ _ us hl => match us, hl with | [_, _, _], _ => rfl
      F_Machine_call := fun_mk (st := st_Machine_call) l_Machine_call c_Machine_call k_Machine_call
      b_Machine_call := (fun_mk (st := st_Machine_call) l_Machine_call c_Machine_call k_Machine_call).binds (ps := ["self", "frame", "function"]) fun _ _ _ _ _ _ us hl => match us, hl with | [_, _, _], _ => rfl
      F_Machine_back := fun_mk (st := st_Machine_back) l_Machine_back c_Machine_back k_Machine_back
      b_Machine_back := (fun_mk (st := st_Machine_back) l_Machine_back c_Machine_back k_Machine_back).binds (ps := ["self", "frame"]) fun _ _ _ _ _ _ us hl => match us, hl with | [_, _], _ => rfl
      F_Machine_fail := fun_mk (st := st_Machine_fail) l_Machine_fail c_Machine_fail k_Machine_fail
      b_Machine_fail := (fun_mk (st := st_Machine_fail) l_Machine_fail c_Machine_fail k_Machine_fail).binds (ps := ["self", "frame"]) fun _ _ _ _ _ _ us hl => match us, hl with | [_, _], _ => rfl
      F_Machine_deed := fun_mk (st := st_Machine_deed) l_Machine_deed c_Machine_deed k_Machine_deed
      b_Machine_deed := (fun_mk (st := st_Machine_deed) l_Machine_deed c_Machine_deed k_Machine_deed).binds (ps := ["self", "frame", "kind"]) fun _ _ _ _ _ _ us hl => match us, hl with | [_, _, _], _ => rfl
      F_Machine_boxed := fun_mk (st := st_Machine_boxed) l_Machine_boxed c_Machine_boxed k_Machine_boxed
      b_Machine_boxed := (fun_mk (st := st_Machine_boxed) l_Machine_boxed c_Machine_boxed k_Machine_boxed).binds (ps := ["self", "frame", "op", "box"]) fun _ _ _ _ _ _ us hl => match us, hl with | [_, _, _, _], _ => rfl
      F_Machine_led := fun_mk (st := st_Machine_led) l_Machine_led c_Machine_led k_Machine_led
      b_Machine_led := (fun_mk (st := st_Machine_led) l_Machine_led c_Machine_led k_Machine_led).binds (ps := ["self", "frame", "op", "number"]) fun _ _ _ _ _ _ us hl => match us, hl with | [_, _, _, _], _ => rfl
      F_Machine_plain_row := fun_mk (st := st_Machine_plain_row) l_Machine_plain_row c_Machine_plain_row k_Machine_plain_row
      b_Machine_plain_row := (fun_mk (st := st_Machine_plain_row) l_Machine_plain_row c_Machine_plain_row k_Machine_plain_row).binds (ps := ["self", "frame", "op", "number"]) fun _ _ _ _ _ _ us hl => match us, hl with | [_, _, _, _], _ => rfl
      F_Machine_step := fun_mk (st := st_Machine_step) l_Machine_step c_Machine_step k_Machine_step
      b_Machine_step := (fun_mk (st := st_Machine_step) l_Machine_step c_Machine_step k_Machine_step).binds (ps := ["self", "frame"]) fun _ _ _ _ _ _ us hl => match us, hl with | [_, _], _ => rfl
      F_Machine_go_on := fun_mk (st := st_Machine_go_on) l_Machine_go_on c_Machine_go_on k_Machine_go_on
      b_Machine_go_on := (fun_mk (st := st_Machine_go_on) l_Machine_go_on c_Machine_go_on k_Machine_go_on).binds (ps := ["self", "most"]) fun _ _ _ _ _ _ us hl => match us, hl with | [_, _], _ => rfl
      m_go := PySem.W.mg_of X G a_go
      F_go := fun_mk (st := st_go) l_go c_go k_go
      b_go := (fun_mk (st := st_go) l_go c_go k_go).binds (ps := ["code", "given", "breaths", "most"]) fun _ _ _ _ _ _ us hl => match us, hl with | [_, _, _, _], _ => rfl
      m_Lpen := PySem.W.mg_of X G a_Lpen
      F_Lpen := fun_mk (st := st_Lpen) l_Lpen c_Lpen k_Lpen
      b_Lpen := (fun_mk (st := st_Lpen) l_Lpen c_Lpen k_Lpen).binds (ps := ["_law_script"]) fun _ _ _ _ _ _ us hl => match us, hl with | [_], _ => rfl
      m_Lmixed := PySem.W.mg_of X G a_Lmixed
      F_Lmixed := fun_mk (st := st_Lmixed) l_Lmixed c_Lmixed k_Lmixed
      b_Lmixed := (fun_mk (st := st_Lmixed) l_Lmixed c_Lmixed k_Lmixed).binds (ps := ["_law_cell", "_law_turn"]) fun _ _ _ _ _ _ us hl => match us, hl with | [_, _], _ => rfl
      m_Ltake := PySem.W.mg_of X G a_Ltake
      F_Ltake := fun_mk (st := st_Ltake) l_Ltake c_Ltake k_Ltake
      b_Ltake := (fun_mk (st := st_Ltake) l_Ltake c_Ltake k_Ltake).binds (ps := ["_law_pen_here", "_law_many"]) fun _ _ _ _ _ _ us hl => match us, hl with | [_, _], _ => rfl
      m_Lnumber := PySem.W.mg_of X G a_Lnumber
      F_Lnumber := fun_mk (st := st_Lnumber) l_Lnumber c_Lnumber k_Lnumber
      b_Lnumber := (fun_mk (st := st_Lnumber) l_Lnumber c_Lnumber k_Lnumber).binds (ps := ["_law_pen_here"]) fun _ _ _ _ _ _ us hl => match us, hl with | [_], _ => rfl
      m_Lneeds := PySem.W.mg_of X G a_Lneeds
      F_Lneeds := fun_mk (st := st_Lneeds) l_Lneeds c_Lneeds k_Lneeds
      b_Lneeds := (fun_mk (st := st_Lneeds) l_Lneeds c_Lneeds k_Lneeds).binds (ps := ["_law_op", "_law_number_here", "_law_heads"]) fun _ _ _ _ _ _ us hl => match us, hl with | [_, _, _], _ => rfl
      m_Lrow := PySem.W.mg_of X G a_Lrow
      F_Lrow := fun_mk (st := st_Lrow) l_Lrow c_Lrow k_Lrow
      b_Lrow := (fun_mk (st := st_Lrow) l_Lrow c_Lrow k_Lrow).binds (ps := ["_law_pen_here", "_law_height_here", "_law_many", "_law_heads"]) fun _ _ _ _ _ _ us hl => match us, hl with | [_, _, _, _], _ => rfl
      m_Lheight := PySem.W.mg_of X G a_Lheight
      F_Lheight := fun_mk (st := st_Lheight) l_Lheight c_Lheight k_Lheight
      b_Lheight := (fun_mk (st := st_Lheight) l_Lheight c_Lheight k_Lheight).binds (ps := ["_law_op", "_law_number_here", "_law_heads", "_law_height_here"]) fun _ _ _ _ _ _ us hl => match us, hl with | [_, _, _, _], _ => rfl
      m_Lcode := PySem.W.mg_of X G a_Lcode
      F_Lcode := fun_mk (st := st_Lcode) l_Lcode c_Lcode k_Lcode
      b_Lcode := (fun_mk (st := st_Lcode) l_Lcode c_Lcode k_Lcode).binds (ps := ["_law_pen_here"]) fun _ _ _ _ _ _ us hl => match us, hl with | [_], _ => rfl
      m_Lword := PySem.W.mg_of X G a_Lword
      F_Lword := fun_mk (st := st_Lword) l_Lword c_Lword k_Lword
      b_Lword := (fun_mk (st := st_Lword) l_Lword c_Lword k_Lword).binds (ps := ["_law_caught"]) fun _ _ _ _ _ _ us hl => match us, hl with | [_], _ => rfl
      m_Lbad_row := PySem.W.mg_of X G a_Lbad_row
      F_Lbad_row := fun_mk (st := st_Lbad_row) l_Lbad_row c_Lbad_row k_Lbad_row
      b_Lbad_row := (fun_mk (st := st_Lbad_row) l_Lbad_row c_Lbad_row k_Lbad_row).binds (ps := ["_law_pen_here", "_law_many", "_law_count"]) fun _ _ _ _ _ _ us hl => match us, hl with | [_, _, _], _ => rfl
      m_Lbad_head := PySem.W.mg_of X G a_Lbad_head
      F_Lbad_head := fun_mk (st := st_Lbad_head) l_Lbad_head c_Lbad_head k_Lbad_head
      b_Lbad_head := (fun_mk (st := st_Lbad_head) l_Lbad_head c_Lbad_head k_Lbad_head).binds (ps := ["_law_pen_here", "_law_head", "_law_at", "_law_many"]) fun _ _ _ _ _ _ us hl => match us, hl with | [_, _, _, _], _ => rfl
      m_Lflat := PySem.W.mg_of X G a_Lflat
      F_Lflat := fun_mk (st := st_Lflat) l_Lflat c_Lflat k_Lflat
      b_Lflat := (fun_mk (st := st_Lflat) l_Lflat c_Lflat k_Lflat).binds (ps := ["_law_heads", "_law_rows"]) fun _ _ _ _ _ _ us hl => match us, hl with | [_, _], _ => rfl
      m_Lbent := PySem.W.mg_of X G a_Lbent
      F_Lbent := fun_mk (st := st_Lbent) l_Lbent c_Lbent k_Lbent
      b_Lbent := (fun_mk (st := st_Lbent) l_Lbent c_Lbent k_Lbent).binds (ps := ["_law_pen_here", "_law_heads", "_law_rows"]) fun _ _ _ _ _ _ us hl => match us, hl with | [_, _, _], _ => rfl
      m_Lodd := PySem.W.mg_of X G a_Lodd
      F_Lodd := fun_mk (st := st_Lodd) l_Lodd c_Lodd k_Lodd
      b_Lodd := (fun_mk (st := st_Lodd) l_Lodd c_Lodd k_Lodd).binds (ps := ["_law_pen_here", "_law_numbers"]) fun _ _ _ _ _ _ us hl => match us, hl with | [_, _], _ => rfl
      m_Ltried := PySem.W.mg_of X G a_Ltried
      F_Ltried := fun_mk (st := st_Ltried) l_Ltried c_Ltried k_Ltried
      b_Ltried := (fun_mk (st := st_Ltried) l_Ltried c_Ltried k_Ltried).binds (ps := ["_law_way", "_law_one", "_law_other"]) fun _ _ _ _ _ _ us hl => match us, hl with | [_, _, _], _ => rfl
      m_Lrefused := PySem.W.mg_of X G a_Lrefused
      F_Lrefused := fun_mk (st := st_Lrefused) l_Lrefused c_Lrefused k_Lrefused
      b_Lrefused := (fun_mk (st := st_Lrefused) l_Lrefused c_Lrefused k_Lrefused).binds (ps := ["_law_thing"]) fun _ _ _ _ _ _ us hl => match us, hl with | [_], _ => rfl
      m_law := PySem.W.mg_of X G a_law
      F_law := fun_mk (st := st_law) l_law c_law k_law
      b_law := (fun_mk (st := st_law) l_law c_law k_law).binds (ps := ["_law_script"]) fun _ _ _ _ _ _ us hl => match us, hl with | [_], _ => rfl
      g_ChainError := PySem.W.mg_of X G a_ChainError
      g_NoSheet := PySem.W.mg_of X G a_NoSheet
      g_NoText := PySem.W.mg_of X G a_NoText
      g_NoCode := PySem.W.mg_of X G a_NoCode
      oq_NoCode := oq_NoCode
      ok_NoCode := kc_NoCode
      ob_NoCode := eb_NoCode
      oy_NoCode := tt_NoCode
      g_NoRow := PySem.W.mg_of X G a_NoRow
      g_NoName := PySem.W.mg_of X G a_NoName
      ex_NoCode_ChainError := _root_.Z.exm_mk eb_ChainError ic_ChainError tt_ChainError es_NoCode_ChainError
      ex_NoCode_NoCode := _root_.Z.exm_mk eb_NoCode ic_NoCode tt_NoCode es_NoCode_NoCode
      kx_NoCode := ⟨qa_NoCode, qg_NoCode, eb_NoCode, qd_NoCode, qc_NoCode, qn_, qt_, qm_NoCode⟩
      kv_NoCode := _root_.Z.kit_mkV kv_NoCode
      ki_NoCode_NoCode := _root_.Z.kit_mkR ic_NoCode tt_NoCode ki_NoCode_NoCode kr_NoCode
      ki_NoCode_NoName := _root_.Z.kit_mkR ic_NoName tt_NoName ki_NoCode_NoName kr_NoCode
      ki_NoCode_NoRow := _root_.Z.kit_mkR ic_NoRow tt_NoRow ki_NoCode_NoRow kr_NoCode
      ki_NoCode_NoSheet := _root_.Z.kit_mkR ic_NoSheet tt_NoSheet ki_NoCode_NoSheet kr_NoCode
      ki_NoCode_NoText := _root_.Z.kit_mkR ic_NoText tt_NoText ki_NoCode_NoText kr_NoCode }
  refine ⟨Z.d_law, fun s v => .of_eq rfl, fun base _ _ => ⟨Z, rfl, ?_⟩⟩
  have G_Lpen := ok_Lpen (P := l.prog) (w := w) (base := base) T 
  have G_Lmixed := ok_Lmixed (P := l.prog) (w := w) (base := base) T 
  have G_Ltake := ok_Ltake (P := l.prog) (w := w) (base := base) T G_Lmixed
  have G_Lnumber := ok_Lnumber (P := l.prog) (w := w) (base := base) T G_Ltake
  have G_Lneeds := ok_Lneeds (P := l.prog) (w := w) (base := base) T 
  have G_Lrow := ok_Lrow (P := l.prog) (w := w) (base := base) T G_Ltake G_Lnumber G_Lneeds
  have G_Lheight := ok_Lheight (P := l.prog) (w := w) (base := base) T G_Lneeds
  have G_Lcode := ok_Lcode (P := l.prog) (w := w) (base := base) T G_Ltake G_Lrow G_Lheight
  have G_Lflat := ok_Lflat (P := l.prog) (w := w) (base := base) T 
  have G_Lbad_row := ok_Lbad_row (P := l.prog) (w := w) (base := base) T G_Ltake
  have G_Lbad_head := ok_Lbad_head (P := l.prog) (w := w) (base := base) T G_Ltake
  have G_Lbent := ok_Lbent (P := l.prog) (w := w) (base := base) T G_Ltake G_Lbad_row G_Lbad_head
  have G_is_whole := ok_is_whole (P := l.prog) (w := w) (base := base) T 
  have G_are_wholes := ok_are_wholes (P := l.prog) (w := w) (base := base) T G_is_whole
  have G_cut_up := ok_cut_up (P := l.prog) (w := w) (base := base) T 
  have G_fits_head := ok_fits_head (P := l.prog) (w := w) (base := base) T 
  have G_fits_op := ok_fits_op (P := l.prog) (w := w) (base := base) T 
  have G_make_code := ok_make_code (P := l.prog) (w := w) (base := base) T G_fits_head G_fits_op
  have G_parted_code := ok_parted_code (P := l.prog) (w := w) (base := base) T G_are_wholes G_cut_up G_make_code
  have G_heads_of := ok_heads_of (P := l.prog) (w := w) (base := base) T G_parted_code
  have G_rows_of := ok_rows_of (P := l.prog) (w := w) (base := base) T G_parted_code
  have G_Machine_init := ok_Machine_init (P := l.prog) (w := w) (base := base) T G_heads_of G_rows_of
  have G_Machine_breathe := ok_Machine_breathe (P := l.prog) (w := w) (base := base) T 
  have G_Frame_init := ok_Frame_init (P := l.prog) (w := w) (base := base) T 
  have G_Machine_begin := ok_Machine_begin (P := l.prog) (w := w) (base := base) T G_Frame_init
  have G_Frame_lay := ok_Frame_lay (P := l.prog) (w := w) (base := base) T 
  have G_Frame_take := ok_Frame_take (P := l.prog) (w := w) (base := base) T 
  have G_Machine_boxed := ok_Machine_boxed (P := l.prog) (w := w) (base := base) T G_Frame_lay G_Frame_take
  have G_Machine_led := ok_Machine_led (P := l.prog) (w := w) (base := base) T G_Frame_take
  have G_Machine_call := ok_Machine_call (P := l.prog) (w := w) (base := base) T G_Frame_take G_Machine_breathe G_Machine_begin
  have G_Machine_back := ok_Machine_back (P := l.prog) (w := w) (base := base) T G_Frame_take G_Frame_lay
  have G_Machine_fail := ok_Machine_fail (P := l.prog) (w := w) (base := base) T G_Frame_take
  have G_parts_of := ok_parts_of (P := l.prog) (w := w) (base := base) T 
  have G_summed := ok_summed (P := l.prog) (w := w) (base := base) T 
  have G_parted_by := ok_parted_by (P := l.prog) (w := w) (base := base) T 
  have G_of_numbers := ok_of_numbers (P := l.prog) (w := w) (base := base) T G_summed G_parted_by
  have G_of_row := ok_of_row (P := l.prog) (w := w) (base := base) T 
  have G_worth := ok_worth (P := l.prog) (w := w) (base := base) T G_of_numbers G_of_row
  have G_Machine_deed := ok_Machine_deed (P := l.prog) (w := w) (base := base) T G_Frame_take G_parts_of G_worth G_Frame_lay
  have G_Machine_plain_row := ok_Machine_plain_row (P := l.prog) (w := w) (base := base) T G_Frame_lay G_Machine_breathe
  have G_Machine_step := ok_Machine_step (P := l.prog) (w := w) (base := base) T G_Machine_boxed G_Machine_led G_Machine_call G_Machine_back G_Machine_fail G_Machine_deed G_Machine_plain_row
  have G_Machine_go_on := ok_Machine_go_on (P := l.prog) (w := w) (base := base) T G_Machine_breathe G_Machine_begin G_Machine_step
  have G_go := ok_go (P := l.prog) (w := w) (base := base) T G_Machine_init G_Machine_go_on
  have G_code_of := ok_code_of (P := l.prog) (w := w) (base := base) T G_are_wholes G_make_code
  have G_Lword := ok_Lword (P := l.prog) (w := w) (base := base) T 
  have G_Ltried := ok_Ltried (P := l.prog) (w := w) (base := base) T G_heads_of G_rows_of G_go G_code_of G_Lword
  have G_is_code := ok_is_code (P := l.prog) (w := w) (base := base) T G_parted_code
  have G_Lrefused := ok_Lrefused (P := l.prog) (w := w) (base := base) T G_is_code G_Ltried
  have G_Lodd := ok_Lodd (P := l.prog) (w := w) (base := base) T G_Ltake
  have G_law := ok_law (P := l.prog) (w := w) (base := base) T G_Lpen G_Lcode G_Lflat G_Lbent G_Ltried G_Lrefused G_Lodd G_is_code
  exact G_law
theorem walk {l : PySem.W.OpenLaw} {q : Program} {loose : List Str} {XP : (Str → Option Value) → Heap → Prop} {YP : World → Heap → Prop} {d : DefRec} {K : Params → PySem.W.Frag} (hn : l.most = some 63) (hdf : d.params.defaults = [])
    (hY : ∀ (w : World) (h : Heap), YP w h → (K w.params).In h)
    (F : ∀ (w : World) (mg : Str → Option Value) (fa : Addr) (h : Heap), (K w.params).In h → h.Ns mainGlobals mg → mg d.name = some (.ref fa) →
      ∃ fd : FuncData, (∀ (s : Shared) (u : Value), BindsTo s fd ⟨[u], []⟩ [("_law_script", u)]) ∧ ∀ base : Heap, (K w.params).In base → base.Ns mainGlobals mg → ∃ Z : Adr, Z.K = K w.params ∧ FnOk l.prog w (K w.params) mg base (L2.CX l.prog w) 10 fa fd ["_law_script"] (sp_law Z)) :
    PySem.W.WalkO q loose XP YP l.row.toRowW d [] (fun f vs => PySem.call f vs) :=
  L2.walk_of (n := 63) (k := 10) (x := "_law_script") (CX := fun w => L2.CX l.prog w) (sp := fun w => sp_goal (K w.params)) hn (by decide) hdf ⟨rfl, by decide, by decide⟩ hY
    (fun w mg fa h a b c => by
      obtain ⟨fd, hb, z⟩ := F w mg fa h a b c
      refine ⟨fd, hb, fun base e f => ?_⟩
      obtain ⟨Z, hZ, g⟩ := z base e f
      exact g.imp fun vs H Q E q => goal_law Z (hZ ▸ q))
    (fun w H a ns hl hO hS => ⟨a, ns, rfl, hO, Scr.of hO hS, hl, fun _ => rfl⟩) fun w H s e s' z => by
      obtain ⟨_, _, _, _, _, _, _, _, _, _, _, _, z⟩ := z
      exact z.elim
end My
open PySem PySem.W PyProof.Rows
set_option maxRecDepth 100000 in
set_option maxHeartbeats 0 in
theorem PySem.Challenge.cw_ownchain_k24_what_is_no_code_holds : PySem.Challenge.rw_ownchain_k24_what_is_no_code.Holds := by
  w_on; o_law; k_head; (case hw => w_witness2)
  k_fill
  refine My.walk (l := PySem.Challenge.rw_ownchain_k24_what_is_no_code) rfl rfl (fun w h Y => PySem.W.kIn_of Y) ?F
  case F =>
    intro w mg fa h KX G hmg
    refine' My.all_mk KX G hmg ?i_PUSH_codes ?i_GET ?i_SET ?i_DROP ?i_JUMP ?i_UNLESS ?i_CALL ?i_BACK ?i_FAIL_codes ?i_BREATH ?i_DO ?i_PICK ?i_MOST_FUNCTIONS ?i_MOST_PARAMS ?i_MOST_BOXES ?i_FIRST_DONE ?i_LAST_DONE ?i_MOST_PICKED ?i_ADD ?i_SUB ?i_MUL ?i_QUO ?i_REST ?i_LESS ?i_SAME ?i_PUSH_deeds ?i_AT ?i_SIZE_deeds ?i_MOST_FIGURES ?i_FAIL_kinds ?i_PUT ?i_SIZE_kinds ?i_NEW ?i_MOST_GOING ?z_ValueError ?z_abs ?z_all ?z_bool ?z_int ?z_isinstance ?z_len ?z_list ?z_max ?z_range ?z_str ?z_tuple ?a_ChainError ?eb_ChainError ?tt_ChainError ?ic_ChainError ?a_NoSheet ?eb_NoSheet ?tt_NoSheet ?ic_NoSheet ?a_NoText ?eb_NoText ?tt_NoText ?ic_NoText ?a_NoCode ?oq_NoCode ?kc_NoCode ?eb_NoCode ?tt_NoCode ?ic_NoCode ?a_NoRow ?eb_NoRow ?tt_NoRow ?ic_NoRow ?a_NoName ?eb_NoName ?tt_NoName ?ic_NoName ?es_NoCode_ChainError ?es_NoCode_NoCode ?qn_ ?qt_ ?qa_NoCode ?qg_NoCode ?qd_NoCode ?qc_NoCode ?qm_NoCode ?kv_NoCode ?kr_NoCode ?ki_NoCode_NoCode ?ki_NoCode_NoName ?ki_NoCode_NoRow ?ki_NoCode_NoSheet ?ki_NoCode_NoText ?a_Frame ?pg_Frame ?hd_Frame ?po_Frame ?sa_Frame ?mk_Frame ?kc_Frame ?at_Frame_init ?fn_Frame_init ?at_Frame_take ?fn_Frame_take ?at_Frame_lay ?fn_Frame_lay ?no_Frame_at ?no_Frame_boxes ?no_Frame_values_there ?a_Machine ?pg_Machine ?hd_Machine ?po_Machine ?sa_Machine ?mk_Machine ?kc_Machine ?at_Machine_init ?fn_Machine_init ?at_Machine_breathe ?fn_Machine_breathe ?at_Machine_begin ?fn_Machine_begin ?at_Machine_call ?fn_Machine_call ?at_Machine_back ?fn_Machine_back ?at_Machine_fail ?fn_Machine_fail ?at_Machine_deed ?fn_Machine_deed ?at_Machine_boxed ?fn_Machine_boxed ?at_Machine_led ?fn_Machine_led ?at_Machine_plain_row ?fn_Machine_plain_row ?at_Machine_step ?fn_Machine_step ?at_Machine_go_on ?fn_Machine_go_on ?no_Machine_heads ?no_Machine_code_rows ?no_Machine_heap ?no_Machine_breaths ?no_Machine_frames ?no_Machine_number ?a_is_whole ?l_is_whole ?c_is_whole ?k_is_whole ?a_are_wholes ?l_are_wholes ?c_are_wholes ?k_are_wholes ?a_fits_op ?l_fits_op ?c_fits_op ?k_fits_op ?a_fits_head ?l_fits_head ?c_fits_head ?k_fits_head ?a_make_code ?l_make_code ?c_make_code ?k_make_code ?a_cut_up ?l_cut_up ?c_cut_up ?k_cut_up ?a_parted_code ?l_parted_code ?c_parted_code ?k_parted_code ?a_is_code ?l_is_code ?c_is_code ?k_is_code ?a_heads_of ?l_heads_of ?c_heads_of ?k_heads_of ?a_rows_of ?l_rows_of ?c_rows_of ?k_rows_of ?a_code_of ?l_code_of ?c_code_of ?k_code_of ?a_summed ?l_summed ?c_summed ?k_summed ?a_parted_by ?l_parted_by ?c_parted_by ?k_parted_by ?a_of_numbers ?l_of_numbers ?c_of_numbers ?k_of_numbers ?a_of_row ?l_of_row ?c_of_row ?k_of_row ?a_worth ?l_worth ?c_worth ?k_worth ?a_parts_of ?l_parts_of ?c_parts_of ?k_parts_of ?l_Frame_init ?c_Frame_init ?k_Frame_init ?l_Frame_take ?c_Frame_take ?k_Frame_take ?l_Frame_lay ?c_Frame_lay ?k_Frame_lay ?l_Machine_init ?c_Machine_init ?k_Machine_init ?l_Machine_breathe ?c_Machine_breathe ?k_Machine_breathe ?l_Machine_begin ?c_Machine_begin ?k_Machine_begin ?l_Machine_call ?c_Machine_call ?k_Machine_call ?l_Machine_back ?c_Machine_back ?k_Machine_back ?l_Machine_fail ?c_Machine_fail ?k_Machine_fail ?l_Machine_deed ?c_Machine_deed ?k_Machine_deed ?l_Machine_boxed ?c_Machine_boxed ?k_Machine_boxed ?l_Machine_led ?c_Machine_led ?k_Machine_led ?l_Machine_plain_row ?c_Machine_plain_row ?k_Machine_plain_row ?l_Machine_step ?c_Machine_step ?k_Machine_step ?l_Machine_go_on ?c_Machine_go_on ?k_Machine_go_on ?a_go ?l_go ?c_go ?k_go ?a_Lpen ?l_Lpen ?c_Lpen ?k_Lpen ?a_Lmixed ?l_Lmixed ?c_Lmixed ?k_Lmixed ?a_Ltake ?l_Ltake ?c_Ltake ?k_Ltake ?a_Lnumber ?l_Lnumber ?c_Lnumber ?k_Lnumber ?a_Lneeds ?l_Lneeds ?c_Lneeds ?k_Lneeds ?a_Lrow ?l_Lrow ?c_Lrow ?k_Lrow ?a_Lheight ?l_Lheight ?c_Lheight ?k_Lheight ?a_Lcode ?l_Lcode ?c_Lcode ?k_Lcode ?a_Lword ?l_Lword ?c_Lword ?k_Lword ?a_Lbad_row ?l_Lbad_row ?c_Lbad_row ?k_Lbad_row ?a_Lbad_head ?l_Lbad_head ?c_Lbad_head ?k_Lbad_head ?a_Lflat ?l_Lflat ?c_Lflat ?k_Lflat ?a_Lbent ?l_Lbent ?c_Lbent ?k_Lbent ?a_Lodd ?l_Lodd ?c_Lodd ?k_Lodd ?a_Ltried ?l_Ltried ?c_Ltried ?k_Ltried ?a_Lrefused ?l_Lrefused ?c_Lrefused ?k_Lrefused ?a_law ?l_law ?c_law ?k_law
    (case i_PUSH_codes => k_is)
    (case i_GET => k_is)
    (case i_SET => k_is)
    (case i_DROP => k_is)
    (case i_JUMP => k_is)
    (case i_UNLESS => k_is)
    (case i_CALL => k_is)
    (case i_BACK => k_is)
    (case i_FAIL_codes => k_is)
    (case i_BREATH => k_is)
    (case i_DO => k_is)
    (case i_PICK => k_is)
    (case i_MOST_FUNCTIONS => k_is)
    (case i_MOST_PARAMS => k_is)
    (case i_MOST_BOXES => k_is)
    (case i_FIRST_DONE => k_is)
    (case i_LAST_DONE => k_is)
    (case i_MOST_PICKED => k_is)
    (case i_ADD => k_is)
    (case i_SUB => k_is)
    (case i_MUL => k_is)
    (case i_QUO => k_is)
    (case i_REST => k_is)
    (case i_LESS => k_is)
    (case i_SAME => k_is)
    (case i_PUSH_deeds => k_is)
    (case i_AT => k_is)
    (case i_SIZE_deeds => k_is)
    (case i_MOST_FIGURES => k_is)
    (case i_FAIL_kinds => k_is)
    (case i_PUT => k_is)
    (case i_SIZE_kinds => k_is)
    (case i_NEW => k_is)
    (case i_MOST_GOING => k_is)
    (case z_ValueError => k_is)
    (case z_abs => k_is)
    (case z_all => k_is)
    (case z_bool => k_is)
    (case z_int => k_is)
    (case z_isinstance => k_is)
    (case z_len => k_is)
    (case z_list => k_is)
    (case z_max => k_is)
    (case z_range => k_is)
    (case z_str => k_is)
    (case z_tuple => k_is)
    (case a_ChainError => k_is)
    (case eb_ChainError => k_is)
    (case tt_ChainError => k_is)
    (case ic_ChainError => k_is)
    (case a_NoSheet => k_is)
    (case eb_NoSheet => k_is)
    (case tt_NoSheet => k_is)
    (case ic_NoSheet => k_is)
    (case a_NoText => k_is)
    (case eb_NoText => k_is)
    (case tt_NoText => k_is)
    (case ic_NoText => k_is)
    (case a_NoCode => k_is)
    (case oq_NoCode => k_exc)
    (case kc_NoCode => k_is)
    (case eb_NoCode => k_is)
    (case tt_NoCode => k_is)
    (case ic_NoCode => k_is)
    (case a_NoRow => k_is)
    (case eb_NoRow => k_is)
    (case tt_NoRow => k_is)
    (case ic_NoRow => k_is)
    (case a_NoName => k_is)
    (case eb_NoName => k_is)
    (case tt_NoName => k_is)
    (case ic_NoName => k_is)
    (case es_NoCode_ChainError => k_is)
    (case es_NoCode_NoCode => k_is)
    (case qn_ => k_is)
    (case qt_ => k_is)
    (case qa_NoCode => k_is)
    (case qg_NoCode => k_is)
    (case qd_NoCode => k_is)
    (case qc_NoCode => k_is)
    (case qm_NoCode => k_is)
    (case kv_NoCode => k_is)
    (case kr_NoCode => k_is)
    (case ki_NoCode_NoCode => k_is)
    (case ki_NoCode_NoName => k_is)
    (case ki_NoCode_NoRow => k_is)
    (case ki_NoCode_NoSheet => k_is)
    (case ki_NoCode_NoText => k_is)
    (case a_Frame => k_is)
    (case pg_Frame => k_is)
    (case hd_Frame => k_is)
    (case po_Frame => k_is)
    (case sa_Frame => k_is)
    (case mk_Frame => k_is)
    (case kc_Frame => k_is)
    (case at_Frame_init => k_is)
    (case fn_Frame_init => k_is)
    (case at_Frame_take => k_is)
    (case fn_Frame_take => k_is)
    (case at_Frame_lay => k_is)
    (case fn_Frame_lay => k_is)
    (case no_Frame_at => k_is)
    (case no_Frame_boxes => k_is)
    (case no_Frame_values_there => k_is)
    (case a_Machine => k_is)
    (case pg_Machine => k_is)
    (case hd_Machine => k_is)
    (case po_Machine => k_is)
    (case sa_Machine => k_is)
    (case mk_Machine => k_is)
    (case kc_Machine => k_is)
    (case at_Machine_init => k_is)
    (case fn_Machine_init => k_is)
    (case at_Machine_breathe => k_is)
    (case fn_Machine_breathe => k_is)
    (case at_Machine_begin => k_is)
    (case fn_Machine_begin => k_is)
    (case at_Machine_call => k_is)
    (case fn_Machine_call => k_is)
    (case at_Machine_back => k_is)
    (case fn_Machine_back => k_is)
    (case at_Machine_fail => k_is)
    (case fn_Machine_fail => k_is)
    (case at_Machine_deed => k_is)
    (case fn_Machine_deed => k_is)
    (case at_Machine_boxed => k_is)
    (case fn_Machine_boxed => k_is)
    (case at_Machine_led => k_is)
    (case fn_Machine_led => k_is)
    (case at_Machine_plain_row => k_is)
    (case fn_Machine_plain_row => k_is)
    (case at_Machine_step => k_is)
    (case fn_Machine_step => k_is)
    (case at_Machine_go_on => k_is)
    (case fn_Machine_go_on => k_is)
    (case no_Machine_heads => k_is)
    (case no_Machine_code_rows => k_is)
    (case no_Machine_heap => k_is)
    (case no_Machine_breaths => k_is)
    (case no_Machine_frames => k_is)
    (case no_Machine_number => k_is)
    (case a_is_whole => k_is)
    (case l_is_whole => k_is)
    (case c_is_whole => k_is)
    (case k_is_whole => k_is)
    (case a_are_wholes => k_is)
    (case l_are_wholes => k_is)
    (case c_are_wholes => k_is)
    (case k_are_wholes => k_is)
    (case a_fits_op => k_is)
    (case l_fits_op => k_is)
    (case c_fits_op => k_is)
    (case k_fits_op => k_is)
    (case a_fits_head => k_is)
    (case l_fits_head => k_is)
    (case c_fits_head => k_is)
    (case k_fits_head => k_is)
    (case a_make_code => k_is)
    (case l_make_code => k_is)
    (case c_make_code => k_is)
    (case k_make_code => k_is)
    (case a_cut_up => k_is)
    (case l_cut_up => k_is)
    (case c_cut_up => k_is)
    (case k_cut_up => k_is)
    (case a_parted_code => k_is)
    (case l_parted_code => k_is)
    (case c_parted_code => k_is)
    (case k_parted_code => k_is)
    (case a_is_code => k_is)
    (case l_is_code => k_is)
    (case c_is_code => k_is)
    (case k_is_code => k_is)
    (case a_heads_of => k_is)
    (case l_heads_of => k_is)
    (case c_heads_of => k_is)
    (case k_heads_of => k_is)
    (case a_rows_of => k_is)
    (case l_rows_of => k_is)
    (case c_rows_of => k_is)
    (case k_rows_of => k_is)
    (case a_code_of => k_is)
    (case l_code_of => k_is)
    (case c_code_of => k_is)
    (case k_code_of => k_is)
    (case a_summed => k_is)
    (case l_summed => k_is)
    (case c_summed => k_is)
    (case k_summed => k_is)
    (case a_parted_by => k_is)
    (case l_parted_by => k_is)
    (case c_parted_by => k_is)
    (case k_parted_by => k_is)
    (case a_of_numbers => k_is)
    (case l_of_numbers => k_is)
    (case c_of_numbers => k_is)
    (case k_of_numbers => k_is)
    (case a_of_row => k_is)
    (case l_of_row => k_is)
    (case c_of_row => k_is)
    (case k_of_row => k_is)
    (case a_worth => k_is)
    (case l_worth => k_is)
    (case c_worth => k_is)
    (case k_worth => k_is)
    (case a_parts_of => k_is)
    (case l_parts_of => k_is)
    (case c_parts_of => k_is)
    (case k_parts_of => k_is)
    (case l_Frame_init => k_is)
    (case c_Frame_init => k_is)
    (case k_Frame_init => k_is)
    (case l_Frame_take => k_is)
    (case c_Frame_take => k_is)
    (case k_Frame_take => k_is)
    (case l_Frame_lay => k_is)
    (case c_Frame_lay => k_is)
    (case k_Frame_lay => k_is)
    (case l_Machine_init => k_is)
    (case c_Machine_init => k_is)
    (case k_Machine_init => k_is)
    (case l_Machine_breathe => k_is)
    (case c_Machine_breathe => k_is)
    (case k_Machine_breathe => k_is)
    (case l_Machine_begin => k_is)
    (case c_Machine_begin => k_is)
    (case k_Machine_begin => k_is)
    (case l_Machine_call => k_is)
    (case c_Machine_call => k_is)
    (case k_Machine_call => k_is)
    (case l_Machine_back => k_is)
    (case c_Machine_back => k_is)
    (case k_Machine_back => k_is)
    (case l_Machine_fail => k_is)
    (case c_Machine_fail => k_is)
    (case k_Machine_fail => k_is)
    (case l_Machine_deed => k_is)
    (case c_Machine_deed => k_is)
    (case k_Machine_deed => k_is)
    (case l_Machine_boxed => k_is)
    (case c_Machine_boxed => k_is)
    (case k_Machine_boxed => k_is)
    (case l_Machine_led => k_is)
    (case c_Machine_led => k_is)
    (case k_Machine_led => k_is)
    (case l_Machine_plain_row => k_is)
    (case c_Machine_plain_row => k_is)
    (case k_Machine_plain_row => k_is)
    (case l_Machine_step => k_is)
    (case c_Machine_step => k_is)
    (case k_Machine_step => k_is)
    (case l_Machine_go_on => k_is)
    (case c_Machine_go_on => k_is)
    (case k_Machine_go_on => k_is)
    (case a_go => k_is)
    (case l_go => k_is)
    (case c_go => k_is)
    (case k_go => k_is)
    (case a_Lpen => k_is)
    (case l_Lpen => k_is)
    (case c_Lpen => k_is)
    (case k_Lpen => k_is)
    (case a_Lmixed => k_is)
    (case l_Lmixed => k_is)
    (case c_Lmixed => k_is)
    (case k_Lmixed => k_is)
    (case a_Ltake => k_is)
    (case l_Ltake => k_is)
    (case c_Ltake => k_is)
    (case k_Ltake => k_is)
    (case a_Lnumber => k_is)
    (case l_Lnumber => k_is)
    (case c_Lnumber => k_is)
    (case k_Lnumber => k_is)
    (case a_Lneeds => k_is)
    (case l_Lneeds => k_is)
    (case c_Lneeds => k_is)
    (case k_Lneeds => k_is)
    (case a_Lrow => k_is)
    (case l_Lrow => k_is)
    (case c_Lrow => k_is)
    (case k_Lrow => k_is)
    (case a_Lheight => k_is)
    (case l_Lheight => k_is)
    (case c_Lheight => k_is)
    (case k_Lheight => k_is)
    (case a_Lcode => k_is)
    (case l_Lcode => k_is)
    (case c_Lcode => k_is)
    (case k_Lcode => k_is)
    (case a_Lword => k_is)
    (case l_Lword => k_is)
    (case c_Lword => k_is)
    (case k_Lword => k_is)
    (case a_Lbad_row => k_is)
    (case l_Lbad_row => k_is)
    (case c_Lbad_row => k_is)
    (case k_Lbad_row => k_is)
    (case a_Lbad_head => k_is)
    (case l_Lbad_head => k_is)
    (case c_Lbad_head => k_is)
    (case k_Lbad_head => k_is)
    (case a_Lflat => k_is)
    (case l_Lflat => k_is)
    (case c_Lflat => k_is)
    (case k_Lflat => k_is)
    (case a_Lbent => k_is)
    (case l_Lbent => k_is)
    (case c_Lbent => k_is)
    (case k_Lbent => k_is)
    (case a_Lodd => k_is)
    (case l_Lodd => k_is)
    (case c_Lodd => k_is)
    (case k_Lodd => k_is)
    (case a_Ltried => k_is)
    (case l_Ltried => k_is)
    (case c_Ltried => k_is)
    (case k_Ltried => k_is)
    (case a_Lrefused => k_is)
    (case l_Lrefused => k_is)
    (case c_Lrefused => k_is)
    (case k_Lrefused => k_is)
    (case a_law => k_is)
    (case l_law => k_is)
    (case c_law => k_is)
    (case k_law => k_is)
